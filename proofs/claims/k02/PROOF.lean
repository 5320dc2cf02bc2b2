import PyProof.Rows.All
import Wide.All
import OpenK.AllK
import Wide.FinOn
import HandS.ForMost
import HandS.Exc
import HandS.Wide
import HandS.IsInst
import HandS.DictComp
import HandS.Gcd
import KE.DataEq
import HandS.Deep
import HandS.Style
import HandS.SortInts
import HandS.More
import HandS.Conv
import HandS.Flow
import HandS.Zip
import PyProof.RulesTry
import HandS.Words
import HandS.EndBits
import Lean
import KE.KStateDown
import HandS.Defaults
import HandS.Head0
import HandS.Head1
import HandS.Head2
import HandS.Head3
import HandS.HeadEnd
import HandS.HeadHook1
import HandS.HeadHook2
import PySem.Challenge.RW_dayworth_k02_papers_of_equations_judged
set_option Elab.async false
set_option linter.all false
set_option maxRecDepth 100000
/-! Ev1: logical values, the logical heap, how both stand in HandS's abstract heap. -/
namespace Ev
open PySem PySem.Spec PyProof.Rows L2

/-- a dict's key -/
inductive DK where
  | k (x : Key) | t (xs : List Key)
  deriving DecidableEq

/-- a logical value: tuples, and lists and dicts that nobody changes, are trees; ref: an object of the logical heap -/
inductive LV where
  | non | bl (b : Bool) | int (i : Int) | str (x : Str) | ty (n : String)
  | tup (xs : List LV) | lst (xs : List LV) | dct (kvs : List (DK × LV)) | ref (i : Nat)

/-- an object of the logical heap; lkd: a dict that a loop walks -/
inductive LO where
  | lst (xs : List LV) | dct (kvs : List (DK × LV)) | lkd (kvs : List (DK × LV)) | ins (c : Str) (fs : List (Str × LV))

/-- what is told of the program's own classes -/
structure GI where
  K : PySem.W.Frag
  cls : Str → Option Addr
  /-- lists and dicts that a comprehension is filling: no value is one of them -/
  hid : List Addr

def StL (G : GI) (m : List Addr) (H : Hp) (a : Addr) (xs : List V) : Prop := (a ∉ m ∧ a ∉ G.hid ∧ Rd H a (.lst xs)) ∨ SqL G.K (fun _ => none) a xs
def StT (G : GI) (m : List Addr) (H : Hp) (a : Addr) (xs : List V) : Prop := (a ∉ m ∧ a ∉ G.hid ∧ Rd H a (.tup xs)) ∨ SqT G.K (fun _ => none) a xs
/-- a dict's content, whichever keys -/
def DcX (R : HO → Prop) (E : List (DK × V) → Prop) : Prop :=
  (∃ kv : List (Key × V), R (.dK kv) ∧ E (kv.map fun p => (DK.k p.1, p.2))) ∨ ∃ kv : List (List Key × V), kv ≠ [] ∧ R (.dT kv) ∧ E (kv.map fun p => (DK.t p.1, p.2))

mutual
def RV (G : GI) (m : List Addr) (H : Hp) : LV → V → Prop
  | .non, v => v = .non
  | .bl b, v => v = .bl b
  | .int i, v => v = .int i
  | .str x, v => v = .str x
  | .ty n, v => v = .ty n
  | .ref i, v => ∃ a, v = .ref a ∧ m[i]? = some a
  | .tup xs, v => ∃ a vs, v = .ref a ∧ StT G m H a vs ∧ RVs G m H xs vs
  | .lst xs, v => ∃ a vs, v = .ref a ∧ StL G m H a vs ∧ RVs G m H xs vs
  | .dct kvs, v => ∃ a, v = .ref a ∧ a ∉ m ∧ a ∉ G.hid ∧ DcX (Rd H a) (RKs G m H kvs)
def RVs (G : GI) (m : List Addr) (H : Hp) : List LV → List V → Prop
  | [], q => q = []
  | x :: t, q => ∃ v r, q = v :: r ∧ RV G m H x v ∧ RVs G m H t r
def RKs (G : GI) (m : List Addr) (H : Hp) : List (DK × LV) → List (DK × V) → Prop
  | [], q => q = []
  | p :: t, q => ∃ v r, q = v :: r ∧ RP G m H p v ∧ RKs G m H t r
def RP (G : GI) (m : List Addr) (H : Hp) : DK × LV → DK × V → Prop
  | (k, x), q => k = q.1 ∧ RV G m H x q.2
end

/-- attributes by name -/
def RFs (G : GI) (m : List Addr) (H : Hp) : List (Str × LV) → List (Str × V) → Prop
  | [], q => q = []
  | p :: t, q => ∃ v r, q = (p.1, v) :: r ∧ RV G m H p.2 v ∧ RFs G m H t r

/-- no locked thing -/
def Nf : HO → Prop
  | .frz _ _ => False
  | _ => True
/-- one heap behind another: what is not of the logical heap stays -/
structure Le (F : List Addr) (m : List Addr) (H : Hp) (m' : List Addr) (H' : Hp) : Prop where
  pre : ∃ l, m' = m ++ l
  rd : ∀ b, b ∉ m → b ∉ F → ∀ w, Nf w → Rd H b w → Rd H' b w ∧ b ∉ m'
structure Ext (m : List Addr) (H : Hp) (m' : List Addr) (H' : Hp) : Prop where
  pre : ∃ l, m' = m ++ l
  out : ∀ b, b ∉ m → ∀ o, H b = some o → H' b = some o ∧ b ∉ m'
  frz : ∀ b o u, H b = some (.frz o u) → H' b = some (.frz o u)

theorem Ext.refl {m : List Addr} {H : Hp} : Ext m H m H := ⟨⟨[], by simp⟩, fun _ hb _ e => ⟨e, hb⟩, fun _ _ _ e => e⟩
theorem Ext.trans {m m1 m2 : List Addr} {H H1 H2 : Hp} (a : Ext m H m1 H1) (b : Ext m1 H1 m2 H2) : Ext m H m2 H2 := by
  obtain ⟨l1, e1⟩ := a.pre
  obtain ⟨l2, e2⟩ := b.pre
  refine ⟨⟨l1 ++ l2, by rw [e2, e1, List.append_assoc]⟩, fun c hc o e => ?_, fun c o u e => b.frz c o u (a.frz c o u e)⟩
  obtain ⟨x, y⟩ := a.out c hc o e
  exact b.out c y o x
theorem Ext.le {F m m' : List Addr} {H H' : Hp} (a : Ext m H m' H') : Le F m H m' H' :=
  ⟨a.pre, fun b hb _ w _ r => by
    rcases r with r | ⟨o, r⟩
    · obtain ⟨x, y⟩ := a.out b hb _ r
      exact ⟨.inl x, y⟩
    · obtain ⟨x, y⟩ := a.out b hb _ r
      exact ⟨.inr ⟨o, x⟩, y⟩⟩
theorem Le.get {F m m' : List Addr} {H H' : Hp} (a : Le F m H m' H') {i : Nat} {x : Addr} (h : m[i]? = some x) : m'[i]? = some x := by
  obtain ⟨l, e⟩ := a.pre
  rw [e, List.getElem?_append_left (List.getElem?_eq_some_iff.mp h).1, h]
theorem DcX.imp {R R' : HO → Prop} {E E' : List (DK × V) → Prop} (h : DcX R E) (hR : ∀ o, R o → R' o) (hE : ∀ l, E l → E' l) : DcX R' E' := by
  rcases h with ⟨kv, a, b⟩ | ⟨kv, n, a, b⟩
  · exact .inl ⟨kv, hR _ a, hE _ b⟩
  · exact .inr ⟨kv, n, hR _ a, hE _ b⟩
theorem DcX.impN {R R' : HO → Prop} {E E' : List (DK × V) → Prop} (h : DcX R E) (hR : ∀ o, Nf o → R o → R' o) (hE : ∀ l, E l → E' l) : DcX R' E' := by
  rcases h with ⟨kv, a, b⟩ | ⟨kv, n, a, b⟩
  · exact .inl ⟨kv, hR (.dK kv) trivial a, hE _ b⟩
  · exact .inr ⟨kv, n, hR (.dT kv) trivial a, hE _ b⟩
theorem StT.mono {G : GI} {m m' : List Addr} {H H' : Hp} {a : Addr} {vs : List V} (l : Le G.hid m H m' H') (h : StT G m H a vs) : StT G m' H' a vs := by
  rcases h with ⟨n, f, r⟩ | h
  · obtain ⟨x, y⟩ := l.rd a n f (.tup vs) trivial r
    exact .inl ⟨y, f, x⟩
  · exact .inr h
theorem StL.mono {G : GI} {m m' : List Addr} {H H' : Hp} {a : Addr} {vs : List V} (l : Le G.hid m H m' H') (h : StL G m H a vs) : StL G m' H' a vs := by
  rcases h with ⟨n, f, r⟩ | h
  · obtain ⟨x, y⟩ := l.rd a n f (.lst vs) trivial r
    exact .inl ⟨y, f, x⟩
  · exact .inr h
theorem SqL.off {K : PySem.W.Frag} {H : Hp} {a : Addr} {xs : List V} (h : SqL K (fun _ => none) a xs) : SqL K H a xs := by
  rcases h with (h | ⟨o, h⟩) | h
  · cases h
  · cases h
  · exact .inr h
theorem SqT.off {K : PySem.W.Frag} {H : Hp} {a : Addr} {xs : List V} (h : SqT K (fun _ => none) a xs) : SqT K H a xs := by
  rcases h with (h | ⟨o, h⟩) | h
  · cases h
  · cases h
  · exact .inr h
theorem StL.sq {G : GI} {m : List Addr} {H : Hp} {a : Addr} {xs : List V} (h : StL G m H a xs) : SqL G.K H a xs := h.elim (fun x => .inl x.2.2) SqL.off
theorem StT.sq {G : GI} {m : List Addr} {H : Hp} {a : Addr} {xs : List V} (h : StT G m H a xs) : SqT G.K H a xs := h.elim (fun x => .inl x.2.2) SqT.off

section
variable {G : GI} {m m' : List Addr} {H H' : Hp}
mutual
theorem RV.mono (l : Le G.hid m H m' H') : ∀ {x : LV} {v : V}, RV G m H x v → RV G m' H' x v
  | .non, _, h => h
  | .bl _, _, h => h
  | .int _, _, h => h
  | .str _, _, h => h
  | .ty _, _, h => h
  | .ref _, _, ⟨a, e, h⟩ => ⟨a, e, l.get h⟩
  | .tup xs, _, ⟨a, vs, e, s, r⟩ => ⟨a, vs, e, s.mono l, RVs.mono l r⟩
  | .lst xs, _, ⟨a, vs, e, s, r⟩ => ⟨a, vs, e, s.mono l, RVs.mono l r⟩
  | .dct kvs, _, ⟨a, e, n, f, d⟩ => by
    refine ⟨a, e, ?_, f, d.impN (fun o no r => (l.rd a n f o no r).1) fun q h => RKs.mono l h⟩
    rcases d with ⟨kv, r, _⟩ | ⟨kv, _, r, _⟩
    · exact (l.rd a n f (.dK kv) trivial r).2
    · exact (l.rd a n f (.dT kv) trivial r).2
theorem RVs.mono (l : Le G.hid m H m' H') : ∀ {x : List LV} {v : List V}, RVs G m H x v → RVs G m' H' x v
  | [], _, h => h
  | _ :: _, _, ⟨v, r, e, a, b⟩ => ⟨v, r, e, RV.mono l a, RVs.mono l b⟩
theorem RKs.mono (l : Le G.hid m H m' H') : ∀ {x : List (DK × LV)} {v : List (DK × V)}, RKs G m H x v → RKs G m' H' x v
  | [], _, h => h
  | _ :: _, _, ⟨v, r, e, a, b⟩ => ⟨v, r, e, RP.mono l a, RKs.mono l b⟩
theorem RP.mono (l : Le G.hid m H m' H') : ∀ {x : DK × LV} {v : DK × V}, RP G m H x v → RP G m' H' x v
  | (_, _), _, ⟨e, r⟩ => ⟨e, RV.mono l r⟩
end
theorem RFs.mono (l : Le G.hid m H m' H') : ∀ {x : List (Str × LV)} {v : List (Str × V)}, RFs G m H x v → RFs G m' H' x v
  | [], _, h => h
  | _ :: _, _, ⟨v, r, e, a, b⟩ => ⟨v, r, e, RV.mono l a, RFs.mono l b⟩

theorem RVs.length : ∀ {xs : List LV} {vs : List V}, RVs G m H xs vs → vs.length = xs.length
  | [], _, h => by cases (show _ = _ from h); rfl
  | _ :: _, _, ⟨v, r, e, _, b⟩ => by subst e; simp [RVs.length b]
theorem RVs.get : ∀ {xs : List LV} {vs : List V} {i : Nat} {x : LV}, RVs G m H xs vs → xs[i]? = some x → ∃ v, vs[i]? = some v ∧ RV G m H x v
  | [], _, _, _, _, e => by simp at e
  | y :: t, _, 0, x, ⟨v, r, e, a, _⟩, h => by
    subst e
    obtain rfl : y = x := by simpa using h
    exact ⟨v, by simp, a⟩
  | y :: t, _, i + 1, x, ⟨v, r, e, _, b⟩, h => by
    subst e
    obtain ⟨v', h1, h2⟩ := RVs.get (i := i) (x := x) b (by simpa using h)
    exact ⟨v', by simpa using h1, h2⟩
theorem RVs.getV : ∀ {xs : List LV} {vs : List V} {i : Nat} {v : V}, RVs G m H xs vs → vs[i]? = some v → ∃ x, xs[i]? = some x ∧ RV G m H x v
  | [], _, _, _, h, e => by cases (show _ = _ from h); simp at e
  | y :: t, _, 0, x, ⟨v, r, e, a, _⟩, h => by
    subst e
    obtain rfl : v = x := by simpa using h
    exact ⟨y, by simp, a⟩
  | y :: t, _, i + 1, x, ⟨v, r, e, _, b⟩, h => by
    subst e
    obtain ⟨v', h1, h2⟩ := RVs.getV (i := i) (v := x) b (by simpa using h)
    exact ⟨v', by simpa using h1, h2⟩
theorem RVs.append : ∀ {xs ys : List LV} {vs ws : List V}, RVs G m H xs vs → RVs G m H ys ws → RVs G m H (xs ++ ys) (vs ++ ws)
  | [], _, _, _, h, g => by cases (show _ = _ from h); exact g
  | _ :: _, _, _, _, ⟨v, r, e, a, b⟩, g => by subst e; exact ⟨v, r ++ _, rfl, a, RVs.append b g⟩
theorem RVs.one {x : LV} {v : V} (h : RV G m H x v) : RVs G m H [x] [v] := ⟨v, [], rfl, h, rfl⟩
theorem RVs.nil : RVs G m H [] [] := rfl
theorem RVs.cons {x : LV} {v : V} {xs : List LV} {vs : List V} (h : RV G m H x v) (t : RVs G m H xs vs) : RVs G m H (x :: xs) (v :: vs) := ⟨v, vs, rfl, h, t⟩
theorem RVs.drop : ∀ {xs : List LV} {vs : List V} (n : Nat), RVs G m H xs vs → RVs G m H (xs.drop n) (vs.drop n)
  | _, _, 0, h => h
  | [], _, _ + 1, h => by cases (show _ = _ from h); exact rfl
  | _ :: _, _, n + 1, ⟨v, r, e, _, b⟩ => by subst e; exact RVs.drop n b
theorem RVs.take : ∀ {xs : List LV} {vs : List V} (n : Nat), RVs G m H xs vs → RVs G m H (xs.take n) (vs.take n)
  | _, _, 0, h => rfl
  | [], _, _ + 1, h => by cases (show _ = _ from h); exact rfl
  | _ :: _, _, n + 1, ⟨v, r, e, a, b⟩ => by subst e; exact ⟨v, _, rfl, a, RVs.take n b⟩
theorem RVs.set : ∀ {xs : List LV} {vs : List V} (i : Nat) {x : LV} {v : V}, RVs G m H xs vs → RV G m H x v → RVs G m H (xs.set i x) (vs.set i v)
  | [], _, _, _, _, h, _ => by cases (show _ = _ from h); exact rfl
  | _ :: _, _, 0, _, _, ⟨v, r, e, a, b⟩, g => by subst e; exact ⟨_, r, rfl, g, b⟩
  | _ :: _, _, i + 1, _, _, ⟨v, r, e, a, b⟩, g => by subst e; exact ⟨v, _, rfl, a, RVs.set i b g⟩
theorem RVs.reverse {xs : List LV} {vs : List V} (h : RVs G m H xs vs) : RVs G m H xs.reverse vs.reverse := by
  induction xs generalizing vs with
  | nil => cases (show _ = _ from h); exact rfl
  | cons x t ih =>
    obtain ⟨v, r, e, a, b⟩ := h
    subst e
    rw [List.reverse_cons, List.reverse_cons]
    exact (ih b).append (RVs.one a)
end

/-- an object of the logical heap at its address -/
def RO (G : GI) (m : List Addr) (H : Hp) (a : Addr) : LO → Prop
  | .lst xs => ∃ vs, H a = some (.lst vs) ∧ RVs G m H xs vs
  | .dct kvs => DcX (fun u => H a = some u) (RKs G m H kvs)
  | .lkd kvs => ∃ o, DcX (fun u => H a = some (.frz o u)) (RKs G m H kvs)
  | .ins c fs => ∃ C dx fs', H a = some (.ins C dx fs') ∧ G.cls c = some C ∧ RFs G m H fs fs' ∧ dx ∉ m ∧ H dx = some (.own a)

structure Rep (G : GI) (m : List Addr) (L : List LO) (H : Hp) : Prop where
  len : m.length = L.length
  nd : m.Nodup
  obj : ∀ (i : Nat) (a : Addr) (o : LO), m[i]? = some a → L[i]? = some o → RO G m H a o
  hid : ∀ b, b ∈ G.hid → b ∉ m ∧ ∃ u, H b = some u

theorem RO.there {G : GI} {m : List Addr} {H : Hp} {a : Addr} {o : LO} (h : RO G m H a o) : ∃ u, H a = some u := by
  cases o with
  | lst xs => obtain ⟨vs, e, _⟩ := h; exact ⟨_, e⟩
  | dct kvs => rcases h with ⟨_, e, _⟩ | ⟨_, _, e, _⟩ <;> exact ⟨_, e⟩
  | lkd kvs => obtain ⟨o, h⟩ := h; rcases h with ⟨_, e, _⟩ | ⟨_, _, e, _⟩ <;> exact ⟨_, e⟩
  | ins c fs => obtain ⟨C, dx, fs', e, _⟩ := h; exact ⟨_, e⟩
theorem Rep.there {G : GI} {m : List Addr} {L : List LO} {H : Hp} (R : Rep G m L H) {a : Addr} (h : a ∈ m) : ∃ u, H a = some u := by
  obtain ⟨i, hi, e⟩ := List.getElem_of_mem h
  have h1 : m[i]? = some a := by rw [List.getElem?_eq_getElem hi, e]
  have h2 : i < L.length := by rw [← R.len]; exact hi
  exact (R.obj i a L[i] h1 (List.getElem?_eq_getElem h2)).there
theorem Rep.new {G : GI} {m : List Addr} {L : List LO} {H : Hp} (R : Rep G m L H) {p : Addr} (h : H p = none) : p ∉ m := fun z => by
  obtain ⟨u, e⟩ := R.there z
  rw [h] at e; cases e
theorem Rep.at {G : GI} {m : List Addr} {L : List LO} {H : Hp} (R : Rep G m L H) {i : Nat} {o : LO} (h : L[i]? = some o) : ∃ a, m[i]? = some a ∧ RO G m H a o := by
  have hi : i < L.length := (List.getElem?_eq_some_iff.mp h).1
  have h2 : i < m.length := by rw [R.len]; exact hi
  exact ⟨m[i], List.getElem?_eq_getElem h2, R.obj i _ o (List.getElem?_eq_getElem h2) h⟩

/-- the address a stays as it was -/
theorem RO.mono {G : GI} {m m' : List Addr} {H H' : Hp} {a : Addr} {o : LO} (l : Le G.hid m H m' H') (ha : H' a = H a) (hd : ∀ b, b ∉ m → H b = some (.own a) → H' b = some (.own a) ∧ b ∉ m') (h : RO G m H a o) : RO G m' H' a o := by
  cases o with
  | lst xs => obtain ⟨vs, e, r⟩ := h; exact ⟨vs, ha.trans e, r.mono l⟩
  | dct kvs => exact DcX.imp (show DcX (fun u => H a = some u) (RKs G m H kvs) from h) (fun o e => ha.trans e) fun _ r => RKs.mono l r
  | lkd kvs => obtain ⟨o, h⟩ := h; exact ⟨o, DcX.imp h (fun o e => ha.trans e) fun _ r => RKs.mono l r⟩
  | ins c fs => obtain ⟨C, dx, fs', e, c, r, n, d⟩ := h; exact ⟨C, dx, fs', ha.trans e, c, r.mono l, (hd dx n d).2, (hd dx n d).1⟩

/-- a new object that is no part of the logical heap -/
theorem Ext.fresh {m : List Addr} {H : Hp} {p : Addr} {o : HO} (hp : H p = none) : Ext m H m (upd H p o) :=
  ⟨⟨[], by simp⟩, fun b hb u e => ⟨by rw [upd_ne (ne_of_none e hp)]; exact e, hb⟩, fun b o' u e => by rw [upd_ne (ne_of_none e hp)]; exact e⟩
theorem Rep.fresh {G : GI} {m : List Addr} {L : List LO} {H : Hp} {p : Addr} {o : HO} (R : Rep G m L H) (hp : H p = none) : Rep G m L (upd H p o) :=
  ⟨R.len, R.nd, fun i a u h1 h2 => (R.obj i a u h1 h2).mono (Ext.fresh hp).le (upd_ne (fun e => R.new hp (e ▸ List.mem_of_getElem? h1))) fun b hb e => ⟨by rw [upd_ne (ne_of_none e hp)]; exact e, hb⟩, fun b hb => let ⟨x, u, e⟩ := R.hid b hb; ⟨x, u, by rw [upd_ne (ne_of_none e hp)]; exact e⟩⟩
theorem Rep.newF {G : GI} {m : List Addr} {L : List LO} {H : Hp} (R : Rep G m L H) {p : Addr} (h : H p = none) : p ∉ G.hid := fun z => by
  obtain ⟨_, u, e⟩ := R.hid p z
  rw [h] at e; cases e
/-- a new object of the logical heap -/
theorem Ext.alloc {m : List Addr} {H : Hp} {p : Addr} {o : HO} (hp : H p = none) : Ext m H (m ++ [p]) (upd H p o) :=
  ⟨⟨[p], rfl⟩, fun b hb u e => ⟨by rw [upd_ne (ne_of_none e hp)]; exact e, by
    rw [List.mem_append]
    rintro (z | z)
    · exact hb z
    · exact ne_of_none e hp (by simpa using z)⟩, fun b o' u e => by rw [upd_ne (ne_of_none e hp)]; exact e⟩
theorem Rep.alloc {G : GI} {m : List Addr} {L : List LO} {H : Hp} {p : Addr} {u : HO} {o : LO} (R : Rep G m L H) (hp : H p = none) (r : RO G (m ++ [p]) (upd H p u) p o) : Rep G (m ++ [p]) (L ++ [o]) (upd H p u) := by
  refine ⟨by simp [R.len], ?_, fun i a x h1 h2 => ?_, fun b hb => ?_⟩
  rotate_left
  rotate_left
  · obtain ⟨x, w, e⟩ := R.hid b hb
    obtain ⟨y, z⟩ := (Ext.alloc (o := u) hp).out b x w e
    exact ⟨z, w, y⟩
  · rw [List.nodup_append]
    refine ⟨R.nd, by simp, fun a ha b hb => ?_⟩
    obtain rfl : b = p := by simpa using hb
    exact fun e => R.new hp (e ▸ ha)
  · by_cases hi : i < m.length
    · rw [List.getElem?_append_left hi] at h1
      rw [List.getElem?_append_left (by rw [← R.len]; exact hi)] at h2
      refine (R.obj i a x h1 h2).mono (Ext.alloc hp).le (upd_ne (fun e => R.new hp (e ▸ List.mem_of_getElem? h1))) fun b hb e => ?_
      exact (Ext.alloc hp).out b hb _ e
    · have h3 : i = m.length := by
        have := (List.getElem?_eq_some_iff.mp h1).1
        simp at this
        omega
      subst h3
      rw [List.getElem?_append_right (Nat.le_refl _), Nat.sub_self] at h1
      rw [R.len, List.getElem?_append_right (Nat.le_refl _), Nat.sub_self] at h2
      obtain rfl : p = a := by simpa using h1
      obtain rfl : o = x := by simpa using h2
      exact r
/-- an object of the logical heap is written -/
theorem Ext.write {m : List Addr} {H : Hp} {a : Addr} {u : HO} (ha : a ∈ m) (hf : ∀ o w, H a ≠ some (.frz o w)) : Ext m H m (upd H a u) :=
  ⟨⟨[], by simp⟩, fun b hb o e => ⟨by rw [upd_ne (fun z : b = a => hb (by rw [z]; exact ha))]; exact e, hb⟩, fun b o w e => by
    by_cases hb : b = a
    · subst hb; exact absurd e (hf o w)
    · rw [upd_ne hb]; exact e⟩
theorem Rep.write {G : GI} {m : List Addr} {L : List LO} {H : Hp} {i : Nat} {a : Addr} {u : HO} {o : LO} (R : Rep G m L H) (hi : m[i]? = some a) (hf : ∀ o w, H a ≠ some (.frz o w)) (r : RO G m (upd H a u) a o) : Rep G m (L.set i o) (upd H a u) := by
  have ha : a ∈ m := List.mem_of_getElem? hi
  refine ⟨by simp [R.len], R.nd, fun j b x h1 h2 => ?_, fun b hb => let ⟨x, w, e⟩ := R.hid b hb; ⟨x, w, ((Ext.write ha hf).out b x w e).1⟩⟩
  by_cases hj : j = i
  · subst hj
    rw [hi] at h1; cases h1
    rw [List.getElem?_set_self (by rw [← R.len]; exact (List.getElem?_eq_some_iff.mp hi).1)] at h2
    cases h2
    exact r
  · rw [List.getElem?_set_ne (Ne.symm hj)] at h2
    have hb : b ≠ a := fun e => by
      subst e
      obtain ⟨x1, e1⟩ := List.getElem?_eq_some_iff.mp h1
      obtain ⟨x2, e2⟩ := List.getElem?_eq_some_iff.mp hi
      exact hj ((List.getElem_inj R.nd).mp (e1.trans e2.symm))
    refine (R.obj j b x h1 h2).mono (Ext.write ha hf).le (upd_ne hb) fun c hc e => ?_
    exact (Ext.write ha hf).out c hc _ e
theorem RO.lst_of {G : GI} {m : List Addr} {H : Hp} {a : Addr} {xs : List LV} {vs : List V} {m0 : List Addr} {H0 : Hp} (l : Le G.hid m0 H0 m H) (e : H a = some (.lst vs)) (r : RVs G m0 H0 xs vs) : RO G m H a (.lst xs) := ⟨vs, e, r.mono l⟩

/-! ### a hidden object -/
def GI.hide (G : GI) (D : Addr) : GI := { G with hid := D :: G.hid }
/-- from one set of hidden objects to another: H's values stand apart from what is hidden -/
structure Gm (G G' : GI) (m m' : List Addr) (H : Hp) : Prop where
  K : G'.K = G.K
  cls : G'.cls = G.cls
  pre : ∃ l, m' = m ++ l
  ok : ∀ a, a ∉ m → a ∉ G.hid → ∀ w, Rd H a w → a ∉ G'.hid ∧ a ∉ m'
section
variable {G G' : GI} {m m' : List Addr} {H : Hp}
mutual
theorem RV.gm (l : Gm G G' m m' H) : ∀ {x : LV} {v : V}, RV G m H x v → RV G' m' H x v
  | .non, _, h => h
  | .bl _, _, h => h
  | .int _, _, h => h
  | .str _, _, h => h
  | .ty _, _, h => h
  | .ref _, _, ⟨a, e, h⟩ => ⟨a, e, by
    obtain ⟨t, e⟩ := l.pre
    rw [e, List.getElem?_append_left (List.getElem?_eq_some_iff.mp h).1, h]⟩
  | .tup xs, _, ⟨a, vs, e, s, r⟩ => ⟨a, vs, e, by
    rcases s with ⟨n, f, s⟩ | s
    · exact .inl ⟨(l.ok a n f _ s).2, (l.ok a n f _ s).1, s⟩
    · exact .inr (by rw [l.K]; exact s), RVs.gm l r⟩
  | .lst xs, _, ⟨a, vs, e, s, r⟩ => ⟨a, vs, e, by
    rcases s with ⟨n, f, s⟩ | s
    · exact .inl ⟨(l.ok a n f _ s).2, (l.ok a n f _ s).1, s⟩
    · exact .inr (by rw [l.K]; exact s), RVs.gm l r⟩
  | .dct kvs, _, ⟨a, e, n, f, d⟩ => by
    have q : ∃ w, Rd H a w := by
      rcases d with ⟨kv, r, _⟩ | ⟨kv, _, r, _⟩
      · exact ⟨_, r⟩
      · exact ⟨_, r⟩
    obtain ⟨w, q⟩ := q
    exact ⟨a, e, (l.ok a n f _ q).2, (l.ok a n f _ q).1, d.imp (fun _ r => r) fun q h => RKs.gm l h⟩
theorem RVs.gm (l : Gm G G' m m' H) : ∀ {x : List LV} {v : List V}, RVs G m H x v → RVs G' m' H x v
  | [], _, h => h
  | _ :: _, _, ⟨v, r, e, a, b⟩ => ⟨v, r, e, RV.gm l a, RVs.gm l b⟩
theorem RKs.gm (l : Gm G G' m m' H) : ∀ {x : List (DK × LV)} {v : List (DK × V)}, RKs G m H x v → RKs G' m' H x v
  | [], _, h => h
  | _ :: _, _, ⟨v, r, e, a, b⟩ => ⟨v, r, e, RP.gm l a, RKs.gm l b⟩
theorem RP.gm (l : Gm G G' m m' H) : ∀ {x : DK × LV} {v : DK × V}, RP G m H x v → RP G' m' H x v
  | (_, _), _, ⟨e, r⟩ => ⟨e, RV.gm l r⟩
end
theorem RFs.gm (l : Gm G G' m m' H) : ∀ {x : List (Str × LV)} {v : List (Str × V)}, RFs G m H x v → RFs G' m' H x v
  | [], _, h => h
  | _ :: _, _, ⟨v, r, e, a, b⟩ => ⟨v, r, e, RV.gm l a, RFs.gm l b⟩
theorem RO.gm (l : Gm G G' m m' H) {a : Addr} {o : LO} (hd : ∀ b, b ∉ m → H b = some (.own a) → b ∉ m') (h : RO G m H a o) : RO G' m' H a o := by
  cases o with
  | lst xs => obtain ⟨vs, e, r⟩ := h; exact ⟨vs, e, r.gm l⟩
  | dct kvs => exact DcX.imp (show DcX (fun u => H a = some u) (RKs G m H kvs) from h) (fun o e => e) fun _ r => RKs.gm l r
  | lkd kvs => obtain ⟨o, h⟩ := h; exact ⟨o, DcX.imp h (fun o e => e) fun _ r => RKs.gm l r⟩
  | ins c fs => obtain ⟨C, dx, fs', e, c, r, n, d⟩ := h; exact ⟨C, dx, fs', e, by rw [l.cls]; exact c, r.gm l, hd dx n d, d⟩
end
/-- D is new: it is hidden -/
theorem Gm.hide {G : GI} {m : List Addr} {H : Hp} {D : Addr} (h : H D = none) : Gm G (G.hide D) m m H :=
  ⟨rfl, rfl, ⟨[], by simp⟩, fun a n f w r => ⟨fun z => (List.mem_cons.mp z).elim (fun e => by
    subst e
    rcases r with r | ⟨_, r⟩ <;> (rw [h] at r; cases r)) f, n⟩⟩
/-- D is shown again -/
theorem Gm.show {G : GI} {m : List Addr} {H : Hp} {D : Addr} : Gm (G.hide D) G m m H :=
  ⟨rfl, rfl, ⟨[], by simp⟩, fun a n f w r => ⟨fun z => f (List.mem_cons_of_mem _ z), n⟩⟩
/-- .. as an object of the logical heap -/
theorem Gm.give {G : GI} {m : List Addr} {H : Hp} {D : Addr} : Gm (G.hide D) G m (m ++ [D]) H :=
  ⟨rfl, rfl, ⟨[D], rfl⟩, fun a n f w r => ⟨fun z => f (List.mem_cons_of_mem _ z), fun z => by
    rw [List.mem_append] at z
    rcases z with z | z
    · exact n z
    · exact f (by rw [List.mem_singleton.mp z]; exact List.mem_cons_self)⟩⟩
theorem Rep.hide {G : GI} {m : List Addr} {L : List LO} {H : Hp} {D : Addr} {u : HO} (R : Rep G m L H) (h : H D = none) : Rep (G.hide D) m L (upd H D u) := by
  have R1 := R.fresh (o := u) h
  refine ⟨R.len, R.nd, fun i a o h1 h2 => ?_, fun b hb => ?_⟩
  · have r := R.obj i a o h1 h2
    have r2 : RO (G.hide D) m H a o := r.gm (Gm.hide h) fun b n _ => n
    refine r2.mono (Ext.fresh h).le (upd_ne (fun e => R.new h (e ▸ List.mem_of_getElem? h1))) fun b hb e => ⟨by rw [upd_ne (ne_of_none e h)]; exact e, hb⟩
  · rcases List.mem_cons.mp hb with e | hb
    · subst e; exact ⟨R.new h, u, upd_same⟩
    · exact R1.hid b hb
theorem Rep.show {G : GI} {m : List Addr} {L : List LO} {H : Hp} {D : Addr} (R : Rep (G.hide D) m L H) : Rep G m L H :=
  ⟨R.len, R.nd, fun i a o h1 h2 => (R.obj i a o h1 h2).gm Gm.show fun b n _ => n, fun b hb => R.hid b (List.mem_cons_of_mem _ hb)⟩
theorem Rep.give {G : GI} {m : List Addr} {L : List LO} {H : Hp} {D : Addr} {o : LO} (R : Rep (G.hide D) m L H) (hf : D ∉ G.hid) (hd : ∀ a, H D ≠ some (.own a)) (r : RO G (m ++ [D]) H D o) : Rep G (m ++ [D]) (L ++ [o]) H := by
  have nD := (R.hid D List.mem_cons_self).1
  refine ⟨by simp [R.len], ?_, fun i a x h1 h2 => ?_, fun b hb => ?_⟩
  rotate_left
  rotate_left
  · obtain ⟨x, w, e⟩ := R.hid b (List.mem_cons_of_mem _ hb)
    refine ⟨fun z => ?_, w, e⟩
    rcases List.mem_append.mp z with z | z
    · exact x z
    · exact hf (by rw [← List.mem_singleton.mp z]; exact hb)
  · rw [List.nodup_append]
    refine ⟨R.nd, by simp, fun a ha b hb => ?_⟩
    obtain rfl : b = D := by simpa using hb
    exact fun e => nD (e ▸ ha)
  · by_cases hi : i < m.length
    · rw [List.getElem?_append_left hi] at h1
      rw [List.getElem?_append_left (by rw [← R.len]; exact hi)] at h2
      refine (R.obj i a x h1 h2).gm Gm.give fun b n e z => ?_
      rcases List.mem_append.mp z with z | z
      · exact n z
      · rw [List.mem_singleton.mp z] at e; exact hd a e
    · have h3 : i = m.length := by
        have := (List.getElem?_eq_some_iff.mp h1).1
        simp at this
        omega
      subst h3
      rw [List.getElem?_append_right (Nat.le_refl _), Nat.sub_self] at h1
      rw [R.len, List.getElem?_append_right (Nat.le_refl _), Nat.sub_self] at h2
      obtain rfl : D = a := by simpa using h1
      obtain rfl : o = x := by simpa using h2
      exact r
/-- what is hidden is written -/
theorem Le.hid {F m : List Addr} {H : Hp} {D : Addr} {u : HO} (hD : D ∈ F) : Le F m H m (upd H D u) :=
  ⟨⟨[], by simp⟩, fun b hb hf w _ r => ⟨by
    have ne : b ≠ D := fun e => hf (by rw [e]; exact hD)
    rcases r with r | ⟨o, r⟩
    · exact .inl (by rw [upd_ne ne]; exact r)
    · exact .inr ⟨o, by rw [upd_ne ne]; exact r⟩, hb⟩⟩
theorem Rep.whid {G : GI} {m : List Addr} {L : List LO} {H : Hp} {D : Addr} {u : HO} (R : Rep G m L H) (hD : D ∈ G.hid) (ho : ∀ a, H D ≠ some (.own a)) : Rep G m L (upd H D u) := by
  have nD := (R.hid D hD).1
  refine ⟨R.len, R.nd, fun i a o h1 h2 => ?_, fun b hb => ?_⟩
  · refine (R.obj i a o h1 h2).mono (Le.hid hD) (upd_ne (fun e => nD (e ▸ List.mem_of_getElem? h1))) fun b hb e => ⟨?_, hb⟩
    rw [upd_ne (fun z : b = D => ho a (by rw [← z]; exact e))]
    exact e
  · obtain ⟨x, w, e⟩ := R.hid b hb
    by_cases hb' : b = D
    · subst hb'; exact ⟨x, u, upd_same⟩
    · exact ⟨x, w, by rw [upd_ne hb']; exact e⟩

/-! ### results -/
inductive Res (α : Type) where
  | ok (a : α) (L : List LO) | fail
/-- what a call of a def is worth, by its name -/
abbrev CB := Str → List LV → List LO → Res LV
abbrev Sl := List (Option LV)
abbrev LE := CB → Sl → List LO → Res LV
abbrev LT := CB → Sl → List LO → Res Bool
abbrev LA := CB → Sl → List LO → Res (List LV)
inductive Fl where
  | next | brk | cont | ret (v : LV)
abbrev LSt := CB → Sl → List LO → Res (Fl × Sl)

def Res.bind {α β : Type} (r : Res α) (f : α → List LO → Res β) : Res β := match r with
  | .ok a L => f a L
  | .fail => .fail
@[simp] theorem Res.bind_ok {α β : Type} {a : α} {L : List LO} {f : α → List LO → Res β} : (Res.ok a L).bind f = f a L := rfl
@[simp] theorem Res.bind_fail {α β : Type} {f : α → List LO → Res β} : (Res.fail : Res α).bind f = .fail := rfl

def PostE (G : GI) (m : List Addr) (H : Hp) (r : Res LV) (Q : VK) : Prop := match r with
  | .ok x L => ∀ m' H' v, Ext m H m' H' → Rep G m' L H' → RV G m' H' x v → Q v H'
  | .fail => False
def PostT (G : GI) (m : List Addr) (H : Hp) (r : Res Bool) (Q : Bool → Hp → Prop) : Prop := match r with
  | .ok b L => ∀ m' H', Ext m H m' H' → Rep G m' L H' → Q b H'
  | .fail => False
def PostA (G : GI) (m : List Addr) (H : Hp) (r : Res (List LV)) (Q : List V → Hp → Prop) : Prop := match r with
  | .ok xs L => ∀ m' H' vs, Ext m H m' H' → Rep G m' L H' → RVs G m' H' xs vs → Q vs H'
  | .fail => False
/-- the slots -/
def RO1 (G : GI) (m : List Addr) (H : Hp) : Option LV → Option V → Prop
  | none, _ => True
  | some x, v => ∃ u, v = some u ∧ RV G m H x u
structure RS (G : GI) (m : List Addr) (H : Hp) (s : Sl) (σ : L2.St) : Prop where
  len : σ.length = s.length
  at' : ∀ (i : Nat) (x : LV), s[i]? = some (some x) → ∃ v, σ[i]? = some (some v) ∧ RV G m H x v
def PostS (G : GI) (m : List Addr) (H : Hp) (r : Res (Fl × Sl)) (D : Ends) : Prop := match r with
  | .ok (f, s) L => ∀ m' H' σ, Ext m H m' H' → Rep G m' L H' → RS G m' H' s σ → (match f with
      | .next => D.nx σ H'
      | .brk => D.bk σ H'
      | .cont => D.ct σ H'
      | .ret x => ∀ v, RV G m' H' x v → D.rt v H')
  | .fail => False
theorem RS.mono {G : GI} {m m' : List Addr} {H H' : Hp} {s : Sl} {σ : L2.St} (l : Le G.hid m H m' H') (h : RS G m H s σ) : RS G m' H' s σ :=
  ⟨h.len, fun i x e => let ⟨v, a, b⟩ := h.at' i x e; ⟨v, a, b.mono l⟩⟩
theorem RS.set {G : GI} {m : List Addr} {H : Hp} {s : Sl} {σ : L2.St} (h : RS G m H s σ) (i : Nat) {x : LV} {v : V} (r : RV G m H x v) : RS G m H (s.set i (some x)) (σ.set i (some v)) := by
  refine ⟨by simp [h.len], fun j y e => ?_⟩
  by_cases hj : i = j
  · subst hj
    have hi : i < s.length := by
      have := (List.getElem?_eq_some_iff.mp e).1
      simpa using this
    rw [List.getElem?_set_self hi] at e
    cases e
    exact ⟨v, by rw [List.getElem?_set_self (by rw [h.len]; exact hi)], r⟩
  · rw [List.getElem?_set_ne hj] at e
    obtain ⟨u, a, b⟩ := h.at' j y e
    exact ⟨u, by rw [List.getElem?_set_ne hj]; exact a, b⟩

/-! ### what is wanted of the model's own reading -/
/-- the widest reading of an expression -/
def WE (X : Cx) (e : Expr) : TE := fun σ H Q => ∀ (pins : List (Addr × Obj)) (s : Shared), Inv X pins σ H s → wpAny (model X.prog X.w) X.A (eval e X.env) (EP X pins σ Q) X.xe s
theorem WE.pe (X : Cx) (e : Expr) : PE X e (WE X e) := ⟨fun pins s σ H Q I h => h pins s I⟩
theorem PE.we {X : Cx} {e : Expr} {t : TE} (h : PE X e t) {σ : L2.St} {H : Hp} {Q : VK} (q : t σ H Q) : WE X e σ H Q := fun pins s I => h.run pins s σ H Q I q
def WT (X : Cx) (e : Expr) : TT := fun σ H Q => ∀ (pins : List (Addr × Obj)) (s : Shared), Inv X pins σ H s → wpAny (model X.prog X.w) X.A (isTrue e X.env (eval e X.env)) (TP X pins σ Q) X.xe s
theorem WT.pt (X : Cx) (e : Expr) : PT X e (WT X e) := ⟨fun pins s σ H Q I h => h pins s I⟩
theorem PT.wt {X : Cx} {e : Expr} {t : TT} (h : PT X e t) {σ : L2.St} {H : Hp} {Q : Bool → Hp → Prop} (q : t σ H Q) : WT X e σ H Q := fun pins s I => h.run pins s σ H Q I q
def WW (X : Cx) (e : Expr) : TT := fun σ H Q => ∀ (whole : Sem Value) (pins : List (Addr × Obj)) (s : Shared), Inv X pins σ H s → wpAny (model X.prog X.w) X.A (isTrue e X.env whole) (TP X pins σ Q) X.xe s
theorem WW.pw (X : Cx) (e : Expr) : PW X e (WW X e) := ⟨fun wh pins s σ H Q I h => h wh pins s I⟩
theorem PW.ww {X : Cx} {e : Expr} {t : TT} (h : PW X e t) {σ : L2.St} {H : Hp} {Q : Bool → Hp → Prop} (q : t σ H Q) : WW X e σ H Q := fun wh pins s I => h.run wh pins s σ H Q I q
theorem WW.wt {X : Cx} {e : Expr} {σ : L2.St} {H : Hp} {Q : Bool → Hp → Prop} (h : WW X e σ H Q) : WT X e σ H Q := fun pins s I => h _ pins s I
def WA (X : Cx) (es : List Expr) : TA := fun σ H Q => ∀ (pos : Pos) (pins : List (Addr × Obj)) (s : Shared), Inv X pins σ H s → wpAny (model X.prog X.w) X.A (spliced (backTo pos (starEach es X.env))) (AP X pins σ Q) X.xe s
theorem WA.pa (X : Cx) (es : List Expr) : PA X es (WA X es) := ⟨fun pos pins s σ H Q I h => h pos pins s I⟩
theorem PA.wa {X : Cx} {es : List Expr} {t : TA} (h : PA X es t) {σ : L2.St} {H : Hp} {Q : List V → Hp → Prop} (q : t σ H Q) : WA X es σ H Q := fun pos pins s I => h.run pos pins s σ H Q I q
def WS (X : Cx) (st : Stmt) : TS := fun D σ H => ∀ (pins : List (Addr × Obj)) (s : Shared), Inv X pins σ H s → wpAny (model X.prog X.w) X.A (exec st X.env) (SP X pins D) X.xe s
theorem WS.ps (X : Cx) (st : Stmt) : PS X st (WS X st) := ⟨fun pins s σ H D I h => h pins s I⟩
theorem PS.ws {X : Cx} {st : Stmt} {t : TS} (h : PS X st t) {σ : L2.St} {H : Hp} {D : Ends} (q : t D σ H) : WS X st D σ H := fun pins s I => h.run pins s σ H D I q
def WB (X : Cx) (st : List Stmt) : TS := fun D σ H => ∀ (pins : List (Addr × Obj)) (s : Shared), Inv X pins σ H s → wpAny (model X.prog X.w) X.A (execs st X.env) (SP X pins D) X.xe s
theorem WB.pss (X : Cx) (st : List Stmt) : PSs X st (WB X st) := ⟨fun pins s σ H D I h => h pins s I⟩
theorem PSs.wb {X : Cx} {st : List Stmt} {t : TS} (h : PSs X st t) {σ : L2.St} {H : Hp} {D : Ends} (q : t D σ H) : WB X st D σ H := fun pins s I => h.run pins s σ H D I q
end Ev

set_option maxHeartbeats 4000000
/-! Ev2: values' operations, and that the model's own do the same. -/
namespace Ev
open PySem PySem.Spec PyProof.Rows L2

/-! ### the widest readings by values -/
def WOp (X : Cx) (f : Value → Value → Sem Value) : R2 := fun x y H Q => ∀ (pins : List (Addr × Obj)) (s : Shared) (σ : L2.St) (v u : Value), Inv X pins σ H s → RelV x v → RelV y u → wpAny (model X.prog X.w) X.A (f v u) (EP X pins σ Q) X.xe s
theorem WOp.r (X : Cx) (f : Value → Value → Sem Value) : OpR X f (WOp X f) := fun pins s σ H x y v u Q I rx ry h => h pins s σ v u I rx ry
theorem WOp.of {X : Cx} {f : Value → Value → Sem Value} {r : R2} (h : OpR X f r) {x y : V} {H : Hp} {Q : VK} (q : r x y H Q) : WOp X f x y H Q := fun pins s σ v u I rx ry => h pins s σ H x y v u Q I rx ry q
def WCall (X : Cx) (f : Value) : List V → Hp → VK → Prop := fun vs H Q => ∀ (pins : List (Addr × Obj)) (s : Shared) (σ : L2.St) (us : List Value), Inv X pins σ H s → Vals vs us → wpAny (model X.prog X.w) X.A (call f us) (EP X pins σ Q) X.xe s
theorem WCall.r (X : Cx) (f : Value) : CallR X f (WCall X f) := fun pins s σ H vs us Q I r h => h pins s σ us I r
theorem WCall.of {X : Cx} {f : Value} {r : List V → Hp → VK → Prop} (h : CallR X f r) {vs : List V} {H : Hp} {Q : VK} (q : r vs H Q) : WCall X f vs H Q := fun pins s σ us I rx => h pins s σ H vs us Q I rx q

/-! ### lists and tuples that are read -/
section
variable {G : GI} {m : List Addr} {L : List LO} {H : Hp}
def seqOf (L : List LO) : LV → Option (List LV)
  | .lst xs => some xs
  | .ref i => match L[i]? with
    | some (.lst xs) => some xs
    | _ => none
  | _ => none
theorem seqOf_ok (R : Rep G m L H) {x : LV} {xs : List LV} {v : V} (h : seqOf L x = some xs) (r : RV G m H x v) : ∃ a vs, v = .ref a ∧ SqL G.K H a vs ∧ RVs G m H xs vs := by
  unfold seqOf at h
  split at h
  · cases h
    obtain ⟨a, vs, e, s, r⟩ := r
    exact ⟨a, vs, e, s.sq, r⟩
  · rename_i i
    split at h
    · rename_i ys e
      cases h
      obtain ⟨a, e1, r⟩ := r
      obtain ⟨b, hb, ro⟩ := R.at e
      rw [r] at hb; cases hb
      obtain ⟨vs, e2, r2⟩ := ro
      exact ⟨a, vs, e1, .inl (.inl e2), r2⟩
    · cases h
  · cases h
/-- lists and tuples -/
def itemsOf (L : List LO) : LV → Option (List LV)
  | .tup xs => some xs
  | x => seqOf L x
theorem itemsOf_ok (R : Rep G m L H) {x : LV} {xs : List LV} {v : V} (h : itemsOf L x = some xs) (r : RV G m H x v) : ∃ a vs, v = .ref a ∧ (SqL G.K H a vs ∨ SqT G.K H a vs) ∧ RVs G m H xs vs := by
  unfold itemsOf at h
  split at h
  · cases h
    obtain ⟨a, vs, e, s, r⟩ := r
    exact ⟨a, vs, e, .inr s.sq, r⟩
  · obtain ⟨a, vs, e, s, r⟩ := seqOf_ok R h r
    exact ⟨a, vs, e, .inl s, r⟩

/-- a new list: a tree, or an object -/
def newL (mu : Bool) (xs : List LV) (L : List LO) : Res LV := match mu with
  | true => .ok (.ref L.length) (L ++ [.lst xs])
  | false => .ok (.lst xs) L
theorem newL_ok (R : Rep G m L H) {xs : List LV} {vs : List V} (r : RVs G m H xs vs) {mu : Bool} {Q : VK} (h : PostE G m H (newL mu xs L) Q) : ∀ p, H p = none → Q (.ref p) (upd H p (.lst vs)) := by
  intro p hp
  cases mu with
  | true =>
    have hm : (m ++ [p])[L.length]? = some p := by rw [← R.len]; simp
    refine h (m ++ [p]) _ _ (Ext.alloc hp) (R.alloc hp ⟨vs, upd_same, r.mono (Ext.alloc hp).le⟩) ⟨p, rfl, hm⟩
  | false => exact h m _ _ (Ext.fresh hp) (R.fresh hp) ⟨p, vs, rfl, .inl ⟨R.new hp, R.newF hp, .inl upd_same⟩, r.mono (Ext.fresh hp).le⟩
theorem newT_ok (R : Rep G m L H) {xs : List LV} {vs : List V} (r : RVs G m H xs vs) {Q : VK} (h : PostE G m H (.ok (.tup xs) L) Q) : ∀ p, H p = none → Q (.ref p) (upd H p (.tup vs)) := fun p hp =>
  h m _ _ (Ext.fresh hp) (R.fresh hp) ⟨p, vs, rfl, .inl ⟨R.new hp, R.newF hp, .inl upd_same⟩, r.mono (Ext.fresh hp).le⟩
def newD (mu : Bool) (kvs : List (DK × LV)) (L : List LO) : Res LV := match mu with
  | true => .ok (.ref L.length) (L ++ [.dct kvs])
  | false => .ok (.dct kvs) L
theorem newDk_ok (R : Rep G m L H) {kvs : List (DK × LV)} {kv : List (Key × V)} (r : RKs G m H kvs (kv.map fun p => (DK.k p.1, p.2))) {mu : Bool} {Q : VK} (h : PostE G m H (newD mu kvs L) Q) : ∀ p, H p = none → Q (.ref p) (upd H p (.dK kv)) := by
  intro p hp
  cases mu with
  | true =>
    have hm : (m ++ [p])[L.length]? = some p := by rw [← R.len]; simp
    refine h (m ++ [p]) _ _ (Ext.alloc hp) (R.alloc hp (.inl ⟨kv, upd_same, RKs.mono (Ext.alloc hp).le r⟩)) ⟨p, rfl, hm⟩
  | false => exact h m _ _ (Ext.fresh hp) (R.fresh hp) ⟨p, rfl, R.new hp, R.newF hp, .inl ⟨kv, .inl upd_same, RKs.mono (Ext.fresh hp).le r⟩⟩
end

/-! ### data for == -/
mutual
def toPD (L : List LO) : LV → Option PyData
  | .non => some .none
  | .bl b => some (.bool b)
  | .int i => some (.int i)
  | .str x => some (.str x)
  | .tup xs => (toPDs L xs).map .tuple
  | .lst xs => (toPDs L xs).map .list
  | .ref i => match L[i]? with
    | some (.lst xs) => (flatPDs xs).map .list
    | _ => none
  | _ => none
def toPDs (L : List LO) : List LV → Option (List PyData)
  | [] => some []
  | x :: t => match toPD L x, toPDs L t with
    | some d, some ds => some (d :: ds)
    | _, _ => none
/-- data without objects of the logical heap -/
def flatPD : LV → Option PyData
  | .non => some .none
  | .bl b => some (.bool b)
  | .int i => some (.int i)
  | .str x => some (.str x)
  | .tup xs => (flatPDs xs).map .tuple
  | .lst xs => (flatPDs xs).map .list
  | _ => none
def flatPDs : List LV → Option (List PyData)
  | [] => some []
  | x :: t => match flatPD x, flatPDs t with
    | some d, some ds => some (d :: ds)
    | _, _ => none
end
section
variable {G : GI} {m : List Addr} {L : List LO} {H : Hp}
mutual
theorem flatPD_ok : ∀ {x : LV} {v : V} {d : PyData}, flatPD x = some d → RV G m H x v → Dp G.K H v d
  | .non, v, d, h, r => by cases h; cases (show v = _ from r); exact .non
  | .bl b, v, d, h, r => by cases h; cases (show v = _ from r); exact .bl b
  | .int i, v, d, h, r => by cases h; cases (show v = _ from r); exact .int i
  | .str x, v, d, h, r => by cases h; cases (show v = _ from r); exact .str x
  | .tup xs, v, d, h, ⟨a, vs, e, s, r⟩ => by
    subst e
    obtain ⟨ds, h1, h2⟩ := Option.map_eq_some_iff.mp (show (flatPDs xs).map .tuple = some d from h)
    subst h2
    exact .tup s.sq (flatPDs_ok h1 r)
  | .lst xs, v, d, h, ⟨a, vs, e, s, r⟩ => by
    subst e
    obtain ⟨ds, h1, h2⟩ := Option.map_eq_some_iff.mp (show (flatPDs xs).map .list = some d from h)
    subst h2
    exact .lst s.sq (flatPDs_ok h1 r)
  | .ty _, _, _, h, _ => nomatch h
  | .dct _, _, _, h, _ => nomatch h
  | .ref _, _, _, h, _ => nomatch h
theorem flatPDs_ok : ∀ {xs : List LV} {vs : List V} {ds : List PyData}, flatPDs xs = some ds → RVs G m H xs vs → DpAll G.K H vs ds
  | [], vs, ds, h, r => by cases h; cases (show vs = _ from r); exact .nil
  | x :: t, vs, ds, h, ⟨v, r, e, a, b⟩ => by
    subst e
    unfold flatPDs at h
    split at h
    · rename_i d ds' h1 h2
      cases h
      exact .cons (flatPD_ok h1 a) (flatPDs_ok h2 b)
    · cases h
end
mutual
theorem toPD_ok (R : Rep G m L H) : ∀ {x : LV} {v : V} {d : PyData}, toPD L x = some d → RV G m H x v → Dp G.K H v d
  | .non, v, d, h, r => by cases h; cases (show v = _ from r); exact .non
  | .bl b, v, d, h, r => by cases h; cases (show v = _ from r); exact .bl b
  | .int i, v, d, h, r => by cases h; cases (show v = _ from r); exact .int i
  | .str x, v, d, h, r => by cases h; cases (show v = _ from r); exact .str x
  | .tup xs, v, d, h, ⟨a, vs, e, s, r⟩ => by
    subst e
    obtain ⟨ds, h1, h2⟩ := Option.map_eq_some_iff.mp (show (toPDs L xs).map .tuple = some d from h)
    subst h2
    exact .tup s.sq (toPDs_ok R h1 r)
  | .lst xs, v, d, h, ⟨a, vs, e, s, r⟩ => by
    subst e
    obtain ⟨ds, h1, h2⟩ := Option.map_eq_some_iff.mp (show (toPDs L xs).map .list = some d from h)
    subst h2
    exact .lst s.sq (toPDs_ok R h1 r)
  | .ref i, v, d, h, ⟨a, e, hm⟩ => by
    subst e
    have h : (match L[i]? with | some (.lst xs) => (flatPDs xs).map PyData.list | _ => none) = some d := h
    split at h
    · rename_i xs hx
      obtain ⟨ds, h1, h2⟩ := Option.map_eq_some_iff.mp h
      subst h2
      obtain ⟨b, hb, vs, e2, r⟩ := R.at hx
      rw [hm] at hb; cases hb
      exact .lst (.inl (.inl e2)) (flatPDs_ok h1 r)
    · cases h
  | .ty _, _, _, h, _ => nomatch h
  | .dct _, _, _, h, _ => nomatch h
theorem toPDs_ok (R : Rep G m L H) : ∀ {xs : List LV} {vs : List V} {ds : List PyData}, toPDs L xs = some ds → RVs G m H xs vs → DpAll G.K H vs ds
  | [], vs, ds, h, r => by cases h; cases (show vs = _ from r); exact .nil
  | x :: t, vs, ds, h, ⟨v, r, e, a, b⟩ => by
    subst e
    unfold toPDs at h
    split at h
    · rename_i d ds' h1 h2
      cases h
      exact .cons (toPD_ok R h1 a) (toPDs_ok R h2 b)
    · cases h
end
end
mutual
theorem flatPD_plain : ∀ {x : LV} {d : PyData}, flatPD x = some d → d.plain = true
  | .non, d, h => by cases h; rfl
  | .bl b, d, h => by cases h; rfl
  | .int i, d, h => by cases h; rfl
  | .str x, d, h => by cases h; rfl
  | .tup xs, d, h => by
    obtain ⟨ds, h1, h2⟩ := Option.map_eq_some_iff.mp (show (flatPDs xs).map .tuple = some d from h)
    subst h2
    show PyData.plain (.tuple ds) = true
    simp only [PyData.plain]
    exact flatPDs_plain h1
  | .lst xs, d, h => by
    obtain ⟨ds, h1, h2⟩ := Option.map_eq_some_iff.mp (show (flatPDs xs).map .list = some d from h)
    subst h2
    simp only [PyData.plain]
    exact flatPDs_plain h1
  | .ty _, _, h => nomatch h
  | .dct _, _, h => nomatch h
  | .ref _, _, h => nomatch h
theorem flatPDs_plain : ∀ {xs : List LV} {ds : List PyData}, flatPDs xs = some ds → PyData.plainAll ds = true
  | [], ds, h => by cases h; rfl
  | x :: t, ds, h => by
    unfold flatPDs at h
    split at h
    · rename_i d ds' h1 h2
      cases h
      simp only [PyData.plainAll, flatPD_plain h1, flatPDs_plain h2, Bool.and_self]
    · cases h
end
mutual
theorem toPD_plain {L : List LO} : ∀ {x : LV} {d : PyData}, toPD L x = some d → d.plain = true
  | .non, d, h => by cases h; rfl
  | .bl b, d, h => by cases h; rfl
  | .int i, d, h => by cases h; rfl
  | .str x, d, h => by cases h; rfl
  | .tup xs, d, h => by
    obtain ⟨ds, h1, h2⟩ := Option.map_eq_some_iff.mp (show (toPDs L xs).map .tuple = some d from h)
    subst h2
    simp only [PyData.plain]
    exact toPDs_plain h1
  | .lst xs, d, h => by
    obtain ⟨ds, h1, h2⟩ := Option.map_eq_some_iff.mp (show (toPDs L xs).map .list = some d from h)
    subst h2
    simp only [PyData.plain]
    exact toPDs_plain h1
  | .ref i, d, h => by
    have h : (match L[i]? with | some (.lst xs) => (flatPDs xs).map PyData.list | _ => none) = some d := h
    split at h
    · obtain ⟨ds, h1, h2⟩ := Option.map_eq_some_iff.mp h
      subst h2
      simp only [PyData.plain]
      exact flatPDs_plain h1
    · cases h
  | .ty _, _, h => nomatch h
  | .dct _, _, h => nomatch h
theorem toPDs_plain {L : List LO} : ∀ {xs : List LV} {ds : List PyData}, toPDs L xs = some ds → PyData.plainAll ds = true
  | [], ds, h => by cases h; rfl
  | x :: t, ds, h => by
    unfold toPDs at h
    split at h
    · rename_i d ds' h1 h2
      cases h
      simp only [PyData.plainAll, toPD_plain h1, toPDs_plain h2, Bool.and_self]
    · cases h
end
section
variable {X : Cx}
def rEqP (K : PySem.W.Frag) : R2 := fun x y H Q => ∃ d e, Dp K H x d ∧ Dp K H y e ∧ d.plain = true ∧ e.plain = true ∧ min d.depth e.depth ≤ 64 ∧ Q (.bl (PyData.eqv d e)) H
def rNeP (K : PySem.W.Frag) : R2 := fun x y H Q => ∃ d e, Dp K H x d ∧ Dp K H y e ∧ d.plain = true ∧ e.plain = true ∧ min d.depth e.depth ≤ 64 ∧ Q (.bl (!PyData.eqv d e)) H
theorem op_eqP (hu : X.A.units + 64 < cLine) : OpR X (compareOp .Eq) (rEqP X.K) := by
  intro pins s σ H x y v u Q I rx ry h
  obtain ⟨d, e, hd, he, sd, se, hm, q⟩ := h
  obtain ⟨as, r1⟩ := Dp.reads I d x v hd rx
  obtain ⟨bs, r2⟩ := Dp.reads I e y u he ry
  exact SeqAt.eq_plain r1 r2 sd se (by omega) ⟨.bl _, H, I, rfl, q⟩
theorem op_neP (hu : X.A.units + 64 < cLine) : OpR X (compareOp .NotEq) (rNeP X.K) := by
  intro pins s σ H x y v u Q I rx ry h
  obtain ⟨d, e, hd, he, sd, se, hm, q⟩ := h
  obtain ⟨as, r1⟩ := Dp.reads I d x v hd rx
  obtain ⟨bs, r2⟩ := Dp.reads I e y u he ry
  exact SeqAt.ne_plain r1 r2 sd se (by omega) ⟨.bl _, H, I, rfl, q⟩
def rInP (K : PySem.W.Frag) : R2 := fun x y H Q => ∃ d ds, Dp K H x d ∧ Dp K H y (.list ds) ∧ d.plain = true ∧ PyData.plainAll ds = true ∧ min (PyData.depthAll ds) d.depth ≤ 64 ∧ Q (.bl (ds.any fun z => PyData.eqv z d)) H
def rNotInP (K : PySem.W.Frag) : R2 := fun x y H Q => ∃ d ds, Dp K H x d ∧ Dp K H y (.list ds) ∧ d.plain = true ∧ PyData.plainAll ds = true ∧ min (PyData.depthAll ds) d.depth ≤ 64 ∧ Q (.bl (!ds.any fun z => PyData.eqv z d)) H
theorem op_inP (hu : X.A.units + 65 < cLine) : OpR X (compareOp .In) (rInP X.K) := by
  intro pins s σ H x y v u Q I rx ry h
  obtain ⟨d, ds, hd, he, sd, se, hm, q⟩ := h
  obtain ⟨as, r1⟩ := Dp.reads I d x v hd rx
  obtain ⟨bs, r2⟩ := Dp.reads I (.list ds) y u he ry
  exact SeqAt.in_list_data r2 r1 se sd (by omega) ⟨.bl _, H, I, rfl, q⟩
theorem op_notInP (hu : X.A.units + 65 < cLine) : OpR X (compareOp .NotIn) (rNotInP X.K) := by
  intro pins s σ H x y v u Q I rx ry h
  obtain ⟨d, ds, hd, he, sd, se, hm, q⟩ := h
  obtain ⟨as, r1⟩ := Dp.reads I d x v hd rx
  obtain ⟨bs, r2⟩ := Dp.reads I (.list ds) y u he ry
  exact SeqAt.notIn_list_data r2 r1 se sd (by omega) ⟨.bl _, H, I, rfl, q⟩
end
/-- x == y -/
def eqL (L : List LO) (x y : LV) : Option Bool := match toPD L x, toPD L y with
  | some d, some e => if min d.depth e.depth ≤ 64 then some (PyData.eqv d e) else none
  | _, _ => none

/-! ### a value's truth -/
def truthL (L : List LO) : LV → Option Bool
  | .non => some false
  | .bl b => some b
  | .int i => some (i != 0)
  | .str x => if x.length ≤ sizeLine then some ((x.length : Int) != 0) else none
  | .tup xs => some (!xs.isEmpty)
  | .lst xs => some (!xs.isEmpty)
  | .ref i => match L[i]? with
    | some (.lst xs) => some (!xs.isEmpty)
    | some (.dct ((DK.k _, _) :: _)) => some true
    | _ => none
  | _ => none
section
variable {G : GI} {m : List Addr} {L : List LO} {H : Hp}
theorem RVs.isEmpty {xs : List LV} {vs : List V} (r : RVs G m H xs vs) : vs.isEmpty = xs.isEmpty := by
  have := r.length
  cases xs <;> cases vs <;> simp_all
theorem truthL_ok (R : Rep G m L H) : ∀ {x : LV} {v : V} {b : Bool}, truthL L x = some b → RV G m H x v → TruV G.K v H b
  | .non, v, d, h, r => by cases h; cases (show v = _ from r); exact rfl
  | .bl b, v, d, h, r => by cases h; cases (show v = _ from r); exact rfl
  | .int i, v, d, h, r => by cases h; cases (show v = _ from r); exact rfl
  | .str x, v, d, h, r => by
    cases (show v = _ from r)
    have h : (if x.length ≤ sizeLine then some ((x.length : Int) != 0) else none) = some d := h
    split at h
    · cases h; exact ⟨by assumption, rfl⟩
    · cases h
  | .tup xs, v, d, h, ⟨a, vs, e, s, r⟩ => by
    subst e
    cases h
    exact .inr (.inl ⟨vs, s.sq, by rw [r.isEmpty]⟩)
  | .lst xs, v, d, h, ⟨a, vs, e, s, r⟩ => by
    subst e
    cases h
    exact .inl ⟨vs, s.sq, by rw [r.isEmpty]⟩
  | .ref i, v, d, h, ⟨a, e, hm⟩ => by
    subst e
    have h : (match L[i]? with
      | some (.lst xs) => some (!xs.isEmpty)
      | some (.dct ((DK.k _, _) :: _)) => some true
      | _ => none) = some d := h
    split at h
    · rename_i xs hx
      cases h
      obtain ⟨b, hb, vs, e2, r⟩ := R.at hx
      rw [hm] at hb; cases hb
      exact .inl ⟨vs, .inl (.inl e2), by rw [r.isEmpty]⟩
    · rename_i kk lv tl hx
      cases h
      obtain ⟨b, hb, ro⟩ := R.at hx
      rw [hm] at hb; cases hb
      rcases ro with ⟨kv, e2, q, r', e3, h1, h2⟩ | ⟨kv, _, e2, q, r', e3, h1, h2⟩
      · refine .inr (.inr ⟨kv, e2, ?_⟩)
        cases kv with
        | nil => simp at e3
        | cons p t => rfl
      · cases kv with
        | nil => simp at e3
        | cons p t =>
          simp only [List.map_cons, List.cons.injEq] at e3
          obtain ⟨e4, _⟩ := e3
          subst e4
          cases h1.1
    · cases h
  | .ty _, _, _, h, _ => nomatch h
  | .dct _, _, _, h, _ => nomatch h
end

/-! ### operators -/
def mulOk (i j : Int) : Prop := i.natAbs.log2 + j.natAbs.log2 < 100000000
instance (i j : Int) : Decidable (mulOk i j) := inferInstanceAs (Decidable (_ < _))
theorem mulOk.ok {i j : Int} (h : mulOk i j) : IntMulOk i j := by
  have b : ∀ x : Int, Builtin.Int.intBits x ≤ x.natAbs.log2 + 1 := fun x => by
    unfold Builtin.Int.intBits
    split <;> omega
  have h1 := b i
  have h2 := b j
  have h3 : i.natAbs.log2 + j.natAbs.log2 < 100000000 := h
  have e : bitsLine = 134217728 := by decide
  unfold IntMulOk
  intro z
  rw [Bool.and_eq_true] at z
  have z2 := z.2
  unfold Builtin.Int.intTooBig at z2
  have z3 := of_decide_eq_true z2
  rw [e] at z3
  omega
def divOk (j : Int) : Prop := j ≠ 0 ∧ j.natAbs.log2 < 9000
instance (j : Int) : Decidable (divOk j) := inferInstanceAs (Decidable (_ ∧ _))
theorem op_mulE {X : Cx} : OpR X (binaryOp .Mult) (rI mulOk fun i j => .int (i * j)) := opI fun _ _ _ _ _ _ _ hc q => mul_int q hc.ok
theorem op_fdivE {X : Cx} : OpR X (binaryOp .FloorDiv) (rI (fun _ j => divOk j) fun i j => .int (Int.fdiv i j)) := opI fun i j _ _ _ _ _ hc q => floordiv_int hc.1 q (.inl (PyProof.noPylong_of_log2 hc.2))
theorem Rd.lstM {X : Cx} {pins : List (Addr × Obj)} {σ : L2.St} {H : Hp} {s : Shared} {l : Addr} {xs : List V} (I : Inv X pins σ H s) (hH : Rd H l (.lst xs)) :
    xs.length ≤ sizeLine ∧ ∃ (its : List Value) (n : Nat), Vals xs its ∧ xs.length = its.length ∧ s.heap.get? l = some { cls := .type "list", data := .seq its.toArray n } := by
  obtain ⟨z, its, n, r, e⟩ := hH.ok I.hok
  exact ⟨z, its, n, r, r.length, e⟩
/-- list + list, as they may be read -/
def rCatR (K : PySem.W.Frag) : R2 := fun x y H Q => ∃ l b xs zs, x = .ref l ∧ y = .ref b ∧ SqL K H l xs ∧ SqL K H b zs ∧ xs.length + zs.length ≤ sizeLine ∧ ∀ p, H p = none → Q (.ref p) (upd H p (.lst (xs ++ zs)))
theorem op_catR {X : Cx} : OpR X (binaryOp .Add) (rCatR X.K) := by
  intro pins s σ H x y v u Q I rx ry h
  obtain ⟨l, b, xs, zs, rfl, rfl, hH, hB, hz, q⟩ := h
  cases rx
  cases ry
  obtain ⟨its, r, pl, z⟩ := I.list hH
  obtain ⟨its2, r2, pl2, z2⟩ := I.list hB
  have hl := r.length
  have hl2 := r2.length
  obtain ⟨⟨cls, dd, data, sl⟩, ho, hc, n, hd⟩ := pl.isList
  obtain ⟨⟨cls2, dd2, data2, sl2⟩, ho2, hc2, n2, hd2⟩ := pl2.isList
  simp only at hc hd hc2 hd2
  subst hc hd hc2 hd2
  refine concat_meets ⟨_, ho, rfl⟩ ⟨_, ho2, rfl⟩ noFill_list_add seq_list_add PySem.F.slot_list_add PySem.F.entry_list_add (PySem.F.args_list_add_2 _ _) (list_addW l b its.toArray its2.toArray n n2 dd dd2 sl sl2 (by rw [List.size_toArray, List.size_toArray]; omega)) ⟨ho, ho2, ?_⟩
  have ea : its.toArray ++ its2.toArray = (its ++ its2).toArray := by simp
  rw [ea]
  exact ⟨.ref _, _, I.lnew (t' := s.toks) (r.append r2) (by rw [List.length_append]; omega), rfl, q _ I.fresh⟩

def addL (mu : Bool) (x y : LV) (L : List LO) : Res LV := match x, y with
  | .int i, .int j => .ok (.int (i + j)) L
  | .str a, .str b => if a.length + b.length ≤ sizeLine then .ok (.str (a ++ b)) L else .fail
  | .tup xs, .tup ys => if xs ≠ [] ∧ xs.length + ys.length ≤ sizeLine then .ok (.tup (xs ++ ys)) L else .fail
  | x, y => match seqOf L x, seqOf L y with
    | some xs, some ys => if xs.length + ys.length ≤ sizeLine then newL mu (xs ++ ys) L else .fail
    | _, _ => .fail
def subL (x y : LV) (L : List LO) : Res LV := match x, y with
  | .int i, .int j => .ok (.int (i - j)) L
  | _, _ => .fail
def mulL (x y : LV) (L : List LO) : Res LV := match x, y with
  | .int i, .int j => if mulOk i j then .ok (.int (i * j)) L else .fail
  | _, _ => .fail
def divL (x y : LV) (L : List LO) : Res LV := match x, y with
  | .int i, .int j => if divOk j then .ok (.int (Int.fdiv i j)) L else .fail
  | _, _ => .fail
def modL (x y : LV) (L : List LO) : Res LV := match x, y with
  | .int i, .int j => if 0 < j then .ok (.int (i % j)) L else .fail
  | _, _ => .fail
def powL (x y : LV) (L : List LO) : Res LV := match x, y with
  | .int i, .int j => if 0 ≤ j ∧ j ≤ 1000000 ∧ i.natAbs < 2 ^ 64 then .ok (.int (i ^ j.toNat)) L else .fail
  | _, _ => .fail
def binL (op : Operator) (mu : Bool) (x y : LV) (L : List LO) : Res LV := match op with
  | .Add => addL mu x y L
  | .Sub => subL x y L
  | .Mult => mulL x y L
  | .FloorDiv => divL x y L
  | .Mod => modL x y L
  | .Pow => powL x y L
  | _ => .fail

section
variable {G : GI} {m : List Addr} {L : List LO} {H : Hp} {X : Cx}
/-- nothing changes but the answer is given -/
theorem PostE.self (R : Rep G m L H) {x : LV} {v : V} {Q : VK} (h : PostE G m H (.ok x L) Q) (r : RV G m H x v) : Q v H := h m H v Ext.refl R r
theorem addL_ok (hK : X.K = G.K) (R : Rep G m L H) {x y : LV} {vx vy : V} (rx : RV G m H x vx) (ry : RV G m H y vy) {mu : Bool} {Q : VK} (h : PostE G m H (addL mu x y L) Q) : WOp X (binaryOp .Add) vx vy H Q := by
  unfold addL at h
  split at h
  · cases (show vx = _ from rx); cases (show vy = _ from ry)
    exact WOp.of op_add ⟨_, _, rfl, rfl, h.self R rfl⟩
  · cases (show vx = _ from rx); cases (show vy = _ from ry)
    split at h
    · exact WOp.of op_add_str ⟨_, _, rfl, rfl, by assumption, h.self R rfl⟩
    · exact h.elim
  · rename_i xs ys
    obtain ⟨a, vs, e, s, r⟩ := rx
    obtain ⟨b, ws, e', s', r'⟩ := ry
    split at h
    · rename_i hc
      refine WOp.of op_catT ⟨a, b, vs, ws, e, e', by rw [hK]; exact s.sq, by rw [hK]; exact s'.sq, ?_, by rw [r.length, r'.length]; exact hc.2, ?_⟩
      · intro z
        have := r.length
        rw [z] at this
        exact hc.1 (List.length_eq_zero_iff.mp this.symm)
      · refine ⟨fun z => ?_, fun _ => newT_ok R (r.append r') h⟩
        have hy : ys = [] := by
          have := r'.length
          rw [z] at this
          exact List.length_eq_zero_iff.mp this.symm
        subst hy
        rw [List.append_nil] at h
        exact h.self R ⟨a, vs, rfl, s, r⟩
    · exact h.elim
  · split at h
    · rename_i xs ys hx hy
      split at h
      · rename_i hc
        obtain ⟨a, vs, e, s, r⟩ := seqOf_ok R hx rx
        obtain ⟨b, ws, e', s', r'⟩ := seqOf_ok R hy ry
        exact WOp.of op_catR ⟨a, b, vs, ws, e, e', by rw [hK]; exact s, by rw [hK]; exact s', by rw [r.length, r'.length]; exact hc, newL_ok R (r.append r') h⟩
      · exact h.elim
    · exact h.elim
theorem binL_ok (hK : X.K = G.K) (R : Rep G m L H) {x y : LV} {vx vy : V} (rx : RV G m H x vx) (ry : RV G m H y vy) {op : Operator} {mu : Bool} {Q : VK} (h : PostE G m H (binL op mu x y L) Q) : WOp X (binaryOp op) vx vy H Q := by
  unfold binL at h
  split at h
  · exact addL_ok hK R rx ry h
  · unfold subL at h
    split at h
    · cases (show vx = _ from rx); cases (show vy = _ from ry)
      exact WOp.of op_sub ⟨_, _, rfl, rfl, h.self R rfl⟩
    · exact h.elim
  · unfold mulL at h
    split at h
    · cases (show vx = _ from rx); cases (show vy = _ from ry)
      split at h
      · exact WOp.of op_mulE ⟨_, _, rfl, rfl, by assumption, h.self R rfl⟩
      · exact h.elim
    · exact h.elim
  · unfold divL at h
    split at h
    · cases (show vx = _ from rx); cases (show vy = _ from ry)
      split at h
      · exact WOp.of op_fdivE ⟨_, _, rfl, rfl, by assumption, h.self R rfl⟩
      · exact h.elim
    · exact h.elim
  · unfold modL at h
    split at h
    · cases (show vx = _ from rx); cases (show vy = _ from ry)
      split at h
      · exact WOp.of op_mod ⟨_, _, rfl, rfl, by assumption, h.self R rfl⟩
      · exact h.elim
    · exact h.elim
  · unfold powL at h
    split at h
    · cases (show vx = _ from rx); cases (show vy = _ from ry)
      split at h
      · exact WOp.of op_pow ⟨_, _, rfl, rfl, by assumption, h.self R rfl⟩
      · exact h.elim
    · exact h.elim
  · exact h.elim
end
end Ev

set_option maxHeartbeats 4000000
/-! Ev3: comparisons, subscripts, slices, dicts. -/
namespace Ev
open PySem PySem.Spec PyProof.Rows L2

/-! ### dicts -/
def toDK : LV → Option DK
  | .int i => some (.k (.inl i))
  | .str x => some (.k (.inr x))
  | _ => none
def dget (kvs : List (DK × LV)) (k : DK) : Option LV := (kvs.find? fun p => decide (p.1 = k)).map (·.2)
def dput (kvs : List (DK × LV)) (k : DK) (v : LV) : List (DK × LV) :=
  if (kvs.any fun p => decide (p.1 = k)) = true then kvs.map fun p => if p.1 = k then (p.1, v) else p else kvs ++ [(k, v)]
def ddrop (kvs : List (DK × LV)) (k : DK) : List (DK × LV) := kvs.filter fun p => decide (p.1 ≠ k)
/-- dicts that may be read -/
def dctOf (L : List LO) : LV → Option (List (DK × LV))
  | .dct kvs => some kvs
  | .ref i => match L[i]? with
    | some (.dct kvs) => some kvs
    | some (.lkd kvs) => some kvs
    | _ => none
  | _ => none
def DK.toLV : DK → LV
  | .k (.inl i) => .int i
  | .k (.inr x) => .str x
  | .t xs => .tup (xs.map fun | .inl i => .int i | .inr x => .str x)

section
variable {G : GI} {m : List Addr} {L : List LO} {H : Hp}
theorem DcX.rd {R : HO → Prop} {E : List (DK × V) → Prop} {H : Hp} {a : Addr} (h : DcX R E) (hR : ∀ o, R o → Rd H a o) : DcX (Rd H a) E := h.imp hR fun _ x => x
theorem dctOf_ok (R : Rep G m L H) {x : LV} {kvs : List (DK × LV)} {v : V} (h : dctOf L x = some kvs) (r : RV G m H x v) : ∃ a, v = .ref a ∧ DcX (Rd H a) (RKs G m H kvs) := by
  unfold dctOf at h
  split at h
  · cases h
    obtain ⟨a, e, n, _, d⟩ := r
    exact ⟨a, e, d⟩
  · rename_i i
    obtain ⟨a, e, hm⟩ := r
    split at h
    · rename_i kv hx
      cases h
      obtain ⟨b, hb, ro⟩ := R.at hx
      rw [hm] at hb; cases hb
      exact ⟨a, e, DcX.rd (show DcX (fun u => H a = some u) (RKs G m H _) from ro) fun o q => .inl q⟩
    · rename_i kv hx
      cases h
      obtain ⟨b, hb, o, ro⟩ := R.at hx
      rw [hm] at hb; cases hb
      exact ⟨a, e, DcX.rd ro fun u q => .inr ⟨o, q⟩⟩
    · cases h
  · cases h
theorem toDK_ok {x : LV} {k : DK} {v : V} (h : toDK x = some k) (r : RV G m H x v) : ∃ y : Key, k = .k y ∧ v = kV y := by
  unfold toDK at h
  split at h <;> cases h
  · exact ⟨_, rfl, r⟩
  · exact ⟨_, rfl, r⟩
theorem RKs.get : ∀ {kvs : List (DK × LV)} {kv : List (Key × V)} (y : Key), RKs G m H kvs (kv.map fun p => (DK.k p.1, p.2)) →
    (∀ x, dget kvs (.k y) = some x → ∃ v, valV kv y = some v ∧ RV G m H x v) ∧ (dget kvs (.k y) = none → valV kv y = none)
  | [], [], y, _ => ⟨fun x h => (nomatch h), fun _ => rfl⟩
  | [], _ :: _, y, h => nomatch (show _ = _ from h)
  | p :: t, [], y, ⟨v, r, e, _⟩ => by simp at e
  | (k, x) :: t, (j, u) :: w, y, ⟨v, r, e, a, b⟩ => by
    simp only [List.map_cons, List.cons.injEq] at e
    obtain ⟨e1, e2⟩ := e
    subst e1 e2
    obtain ⟨ek, ru⟩ := a
    have ek : k = .k j := ek
    subst ek
    have ih := RKs.get (kvs := t) (kv := w) y b
    unfold dget valV at *
    by_cases hy : j = y
    · subst hy
      simp only [List.find?_cons, decide_true]
      exact ⟨fun x' h => by cases h; exact ⟨u, rfl, ru⟩, fun h => nomatch h⟩
    · have hk : ¬ (DK.k j = DK.k y) := fun z => hy (DK.k.inj z)
      simp only [List.find?_cons, decide_eq_false hy, decide_eq_false hk]
      exact ih
theorem RKs.length : ∀ {kvs : List (DK × LV)} {kv : List (DK × V)}, RKs G m H kvs kv → kv.length = kvs.length
  | [], _, h => by cases (show _ = _ from h); rfl
  | _ :: _, _, ⟨v, r, e, _, b⟩ => by subst e; simp [RKs.length b]
theorem RKs.any : ∀ {kvs : List (DK × LV)} {kv : List (Key × V)} (y : Key), RKs G m H kvs (kv.map fun p => (DK.k p.1, p.2)) →
    (kvs.any fun p => decide (p.1 = .k y)) = kv.any fun p => decide (p.1 = y)
  | [], [], y, _ => rfl
  | [], _ :: _, y, h => nomatch (show _ = _ from h)
  | p :: t, [], y, ⟨v, r, e, _⟩ => by simp at e
  | (k, x) :: t, (j, u) :: w, y, ⟨v, r, e, a, b⟩ => by
    simp only [List.map_cons, List.cons.injEq] at e
    obtain ⟨e1, e2⟩ := e
    subst e1 e2
    obtain ⟨ek, ru⟩ := a
    have ek : k = .k j := ek
    subst ek
    rw [List.any_cons, List.any_cons, RKs.any y b]
    congr 1
    by_cases hy : j = y
    · simp [hy]
    · have hk : ¬ (DK.k j = DK.k y) := fun z => hy (DK.k.inj z)
      rw [decide_eq_false hy]
      exact decide_eq_false hk
theorem RKs.append : ∀ {a b : List (DK × LV)} {c d : List (DK × V)}, RKs G m H a c → RKs G m H b d → RKs G m H (a ++ b) (c ++ d)
  | [], _, _, _, h, g => by cases (show _ = _ from h); exact g
  | _ :: _, _, _, _, ⟨v, r, e, x, y⟩, g => by subst e; exact ⟨v, r ++ _, rfl, x, RKs.append y g⟩
theorem RKs.repl : ∀ {kvs : List (DK × LV)} {kv : List (Key × V)} (y : Key) {x : LV} {v : V}, RKs G m H kvs (kv.map fun p => (DK.k p.1, p.2)) → RV G m H x v →
    RKs G m H (kvs.map fun p => if p.1 = .k y then (p.1, x) else p) ((kv.map fun p => if p.1 = y then (p.1, v) else p).map fun p => (DK.k p.1, p.2))
  | [], [], y, _, _, _, _ => rfl
  | [], _ :: _, y, _, _, h, _ => nomatch (show _ = _ from h)
  | p :: t, [], y, _, _, ⟨v, r, e, _⟩, _ => by simp at e
  | (k, x) :: t, (j, u) :: w, y, _, _, ⟨v, r, e, a, b⟩, g => by
    simp only [List.map_cons, List.cons.injEq] at e
    obtain ⟨e1, e2⟩ := e
    subst e1 e2
    obtain ⟨ek, ru⟩ := a
    have ek : k = .k j := ek
    subst ek
    simp only [List.map_cons]
    refine ⟨_, _, rfl, ?_, RKs.repl y b g⟩
    by_cases hy : j = y
    · subst hy; simp only [if_true]; exact ⟨rfl, g⟩
    · have hk : ¬ (DK.k j = DK.k y) := fun z => hy (DK.k.inj z)
      rw [if_neg hy, if_neg hk]; exact ⟨rfl, ru⟩
theorem RKs.put {kvs : List (DK × LV)} {kv : List (Key × V)} (y : Key) {x : LV} {v : V} (h : RKs G m H kvs (kv.map fun p => (DK.k p.1, p.2))) (g : RV G m H x v) : RKs G m H (dput kvs (.k y) x) ((putK kv y v).map fun p => (DK.k p.1, p.2)) := by
  unfold dput putK
  rw [RKs.any y h]
  split
  · exact RKs.repl y h g
  · rw [List.map_append]
    exact h.append ⟨_, [], rfl, ⟨rfl, g⟩, rfl⟩
theorem RKs.drop : ∀ {kvs : List (DK × LV)} {kv : List (Key × V)} (y : Key), RKs G m H kvs (kv.map fun p => (DK.k p.1, p.2)) → RKs G m H (ddrop kvs (.k y)) ((dropK kv y).map fun p => (DK.k p.1, p.2))
  | [], [], y, _ => rfl
  | [], _ :: _, y, h => nomatch (show _ = _ from h)
  | p :: t, [], y, ⟨v, r, e, _⟩ => by simp at e
  | (k, x) :: t, (j, u) :: w, y, ⟨v, r, e, a, b⟩ => by
    simp only [List.map_cons, List.cons.injEq] at e
    obtain ⟨e1, e2⟩ := e
    subst e1 e2
    obtain ⟨ek, ru⟩ := a
    have ek : k = .k j := ek
    subst ek
    have ih := RKs.drop y b
    unfold ddrop dropK at *
    by_cases hy : j = y
    · subst hy; simpa using ih
    · have hk : ¬ (DK.k j = DK.k y) := fun z => hy (DK.k.inj z)
      rw [List.filter_cons_of_pos (by simpa using hk), List.filter_cons_of_pos (by simpa using hy)]
      exact ⟨_, _, rfl, ⟨rfl, ru⟩, ih⟩
end
/-- all keys are ints and texts -/
def kDict (kvs : List (DK × LV)) : Bool := kvs.all fun p => match p.1 with | .k _ => true | .t _ => false
theorem DcX.kd {G : GI} {m : List Addr} {H : Hp} {kvs : List (DK × LV)} {R : HO → Prop} (d : DcX R (RKs G m H kvs)) (h : kDict kvs = true) : ∃ kv : List (Key × V), R (.dK kv) ∧ RKs G m H kvs (kv.map fun p => (DK.k p.1, p.2)) := by
  rcases d with d | ⟨kv, n, _, e⟩
  · exact d
  · cases kv with
    | nil => exact absurd rfl n
    | cons q w =>
      cases kvs with
      | nil => nomatch (show _ = _ from e)
      | cons p t =>
        obtain ⟨v, r, e, a, b⟩ := e
        simp only [List.map_cons, List.cons.injEq] at e
        obtain ⟨e1, e2⟩ := e
        subst e1 e2
        obtain ⟨k, x⟩ := p
        obtain ⟨ek, ru⟩ := a
        have ek : k = .t q.1 := ek
        subst ek
        unfold kDict at h
        simp at h
/-! ### comparisons -/
def flatL : LV → Bool
  | .non => true
  | .bl _ => true
  | .int _ => true
  | .str _ => true
  | _ => false
def eqFlat : LV → LV → Bool
  | .non, .non => true
  | .bl a, .bl b => a == b
  | .bl a, .int b => (if a then 1 else 0) == b
  | .int a, .bl b => a == (if b then 1 else 0)
  | .int a, .int b => a == b
  | .str a, .str b => a == b
  | _, _ => false
/-- x in y -/
def inL (L : List LO) (x y : LV) : Option Bool := match dctOf L y with
  | some kvs => match toDK x with
    | some k => if kDict kvs = true then some (dget kvs k).isSome else none
    | none => none
  | none => match y with
    | .str z => match x with
      | .str a => if a.cps.size = 1 then some (decide (a.cps.getD 0 0 ∈ z.cps.toList)) else none
      | _ => none
    | .tup ys => if flatL x = true ∧ ys.all flatL = true then some (ys.any fun y => eqFlat y x) else none
    | _ => match toPD L x, toPD L y with
      | some d, some (.list ds) => if min (PyData.depthAll ds) d.depth ≤ 64 then some (ds.any fun z => PyData.eqv z d) else none
      | _, _ => none
def isNon : LV → Bool
  | .non => true
  | _ => false
def isL (x y : LV) : Option Bool := match y with
  | .non => some (isNon x)
  | .bl b => match x with
    | .bl a => some (decide (a = b))
    | .non => some false
    | .int _ => some false
    | .str _ => some false
    | .tup _ => some false
    | .lst _ => some false
    | .dct _ => some false
    | .ref _ => some false
    | _ => none
  | _ => none
def ltL (x y : LV) : Option Bool := match x, y with
  | .int i, .int j => some (decide (i < j))
  | .str i, .str j => some (decide (i.cps.toList < j.cps.toList))
  | _, _ => none
def cmpL (op : CmpOp) (L : List LO) (x y : LV) : Option Bool := match op with
  | .Eq => eqL L x y
  | .NotEq => (eqL L x y).map (!·)
  | .Lt => ltL x y
  | .Gt => ltL y x
  | .LtE => (ltL y x).map (!·)
  | .GtE => (ltL x y).map (!·)
  | .Is => isL x y
  | .IsNot => (isL x y).map (!·)
  | .In => inL L x y
  | .NotIn => (inL L x y).map (!·)
section
variable {G : GI} {m : List Addr} {L : List LO} {H : Hp} {X : Cx}
theorem eqL_ok (hK : X.K = G.K) (hu : X.A.units + 65 < cLine) (R : Rep G m L H) {x y : LV} {vx vy : V} (rx : RV G m H x vx) (ry : RV G m H y vy) {b : Bool} (h : eqL L x y = some b) {Q : VK} :
    (Q (.bl b) H → WOp X (compareOp .Eq) vx vy H Q) ∧ (Q (.bl (!b)) H → WOp X (compareOp .NotEq) vx vy H Q) := by
  unfold eqL at h
  split at h
  · rename_i d e h1 h2
    split at h
    · rename_i hs
      cases h
      have a := toPD_ok R h1 rx
      have b := toPD_ok R h2 ry
      rw [← hK] at a b
      exact ⟨fun q => WOp.of (op_eqP (by omega)) ⟨d, e, a, b, toPD_plain h1, toPD_plain h2, hs, q⟩, fun q => WOp.of (op_neP (by omega)) ⟨d, e, a, b, toPD_plain h1, toPD_plain h2, hs, q⟩⟩
    · cases h
  · cases h
theorem ltL_ok (R : Rep G m L H) {x y : LV} {vx vy : V} (rx : RV G m H x vx) (ry : RV G m H y vy) {b : Bool} (h : ltL x y = some b) {Q : VK} :
    (Q (.bl b) H → WOp X (compareOp .Lt) vx vy H Q) ∧ (Q (.bl b) H → WOp X (compareOp .Gt) vy vx H Q) ∧ (Q (.bl (!b)) H → WOp X (compareOp .GtE) vx vy H Q) ∧ (Q (.bl (!b)) H → WOp X (compareOp .LtE) vy vx H Q) := by
  unfold ltL at h
  split at h
  · rename_i i j
    cases h
    cases (show vx = _ from rx); cases (show vy = _ from ry)
    have e : decide (j ≤ i) = !decide (i < j) := by
      by_cases hh : i < j
      · rw [decide_eq_true hh, decide_eq_false (by omega)]; rfl
      · rw [decide_eq_false hh, decide_eq_true (by omega)]; rfl
    exact ⟨fun q => WOp.of op_lt ⟨_, _, rfl, rfl, q⟩, fun q => WOp.of op_gt ⟨_, _, rfl, rfl, q⟩, fun q => WOp.of op_ge ⟨_, _, rfl, rfl, by show Q (.bl (decide (j ≤ i))) H; rw [e]; exact q⟩, fun q => WOp.of op_le ⟨_, _, rfl, rfl, by show Q (.bl (decide (j ≤ i))) H; rw [e]; exact q⟩⟩
  · cases h
    cases (show vx = _ from rx); cases (show vy = _ from ry)
    exact ⟨fun q => WOp.of op_lt_str ⟨_, _, rfl, rfl, q⟩, fun q => WOp.of op_gt_str ⟨_, _, rfl, rfl, q⟩, fun q => WOp.of op_ge_str ⟨_, _, rfl, rfl, q⟩, fun q => WOp.of op_le_str ⟨_, _, rfl, rfl, q⟩⟩
  · cases h
theorem is_other {x y : V} (h : ∀ u v : Value, RelV x u → RelV y v → plainIs u v = true ∧ u ≠ v) {Q : VK} :
    (Q (.bl false) H → WOp X (compareOp .Is) x y H Q) ∧ (Q (.bl true) H → WOp X (compareOp .IsNot) x y H Q) :=
  ⟨fun q pins s σ v u I rv ru => wpAny_is_other (h v u rv ru).1 (h v u rv ru).2 ⟨.bl false, H, I, rfl, q⟩, fun q pins s σ v u I rv ru => wpAny_isNot_other (h v u rv ru).1 (h v u rv ru).2 ⟨.bl true, H, I, rfl, q⟩⟩
theorem is_blx {x : V} {b : Bool} (h : ∀ c, x ≠ .bl c) {Q : VK} :
    (Q (.bl false) H → WOp X (compareOp .Is) x (.bl b) H Q) ∧ (Q (.bl true) H → WOp X (compareOp .IsNot) x (.bl b) H Q) := by
  refine is_other fun u v ru rv => ?_
  cases (show v = _ from rv)
  cases x with
  | non => cases (show u = _ from ru); exact ⟨rfl, fun z => nomatch z⟩
  | bl c => exact absurd rfl (h c)
  | int i => obtain ⟨t, rfl⟩ := ru; exact ⟨rfl, fun z => nomatch z⟩
  | str i => obtain ⟨t, rfl⟩ := ru; exact ⟨rfl, fun z => nomatch z⟩
  | byt i => obtain ⟨t, rfl⟩ := ru; exact ⟨rfl, fun z => nomatch z⟩
  | flt i => obtain ⟨t, rfl⟩ := ru; exact ⟨rfl, fun z => nomatch z⟩
  | ref a => cases (show u = _ from ru); exact ⟨rfl, fun z => nomatch z⟩
  | ty a => cases (show u = _ from ru); exact ⟨rfl, fun z => nomatch z⟩
theorem RV.non_iff {x : LV} {v : V} (r : RV G m H x v) : decide (v = .non) = isNon x := by
  cases x with
  | non => cases (show v = _ from r); rfl
  | bl _ => cases (show v = _ from r); rfl
  | int _ => cases (show v = _ from r); rfl
  | str _ => cases (show v = _ from r); rfl
  | ty _ => cases (show v = _ from r); rfl
  | tup _ => obtain ⟨a, vs, e, _⟩ := r; subst e; rfl
  | lst _ => obtain ⟨a, vs, e, _⟩ := r; subst e; rfl
  | dct _ => obtain ⟨a, e, _⟩ := r; subst e; rfl
  | ref _ => obtain ⟨a, e, _⟩ := r; subst e; rfl
theorem isL_ok {x y : LV} {vx vy : V} (rx : RV G m H x vx) (ry : RV G m H y vy) {b : Bool} (h : isL x y = some b) {Q : VK} :
    (Q (.bl b) H → WOp X (compareOp .Is) vx vy H Q) ∧ (Q (.bl (!b)) H → WOp X (compareOp .IsNot) vx vy H Q) := by
  unfold isL at h
  split at h
  · cases h
    cases (show vy = _ from ry)
    have e := RV.non_iff rx
    exact ⟨fun q => WOp.of op_isN ⟨rfl, by rw [e]; exact q⟩, fun q => WOp.of op_notN ⟨rfl, by rw [e]; exact q⟩⟩
  · cases (show vy = _ from ry)
    split at h
    · cases h
      cases (show vx = _ from rx)
      exact ⟨fun q => WOp.of op_isBl ⟨_, _, rfl, rfl, q⟩, fun q => WOp.of op_notBl ⟨_, _, rfl, rfl, q⟩⟩
    · cases h; cases (show vx = _ from rx); exact is_blx fun c z => by cases z
    · cases h; cases (show vx = _ from rx); exact is_blx fun c z => by cases z
    · cases h; cases (show vx = _ from rx); exact is_blx fun c z => by cases z
    · cases h; obtain ⟨a, vs, e, _⟩ := rx; subst e; exact is_blx fun c z => by cases z
    · cases h; obtain ⟨a, vs, e, _⟩ := rx; subst e; exact is_blx fun c z => by cases z
    · cases h; obtain ⟨a, e, _⟩ := rx; subst e; exact is_blx fun c z => by cases z
    · cases h; obtain ⟨a, e, _⟩ := rx; subst e; exact is_blx fun c z => by cases z
    · cases h
  · cases h
theorem flat_ok {x : LV} {v : V} (r : RV G m H x v) (f : flatL x = true) : flatV v = true := by
  cases x <;> first | (cases (show v = _ from r); rfl) | (simp [flatL] at f)
theorem eqFlat_ok {x y : LV} {v u : V} (r : RV G m H x v) (r' : RV G m H y u) (f : flatL x = true) (f' : flatL y = true) : eqV v u = eqFlat x y := by
  cases x <;> first | (simp [flatL] at f; done) | (cases (show v = _ from r); cases y <;> first | (simp [flatL] at f'; done) | (cases (show u = _ from r'); rfl))
theorem any_flat {x : LV} {v : V} (r : RV G m H x v) (f : flatL x = true) : ∀ {ys : List LV} {us : List V}, RVs G m H ys us → ys.all flatL = true → us.all flatV = true ∧ inV v us = ys.any fun y => eqFlat y x
  | [], us, h, _ => by cases (show us = _ from h); exact ⟨rfl, rfl⟩
  | y :: t, us, ⟨u, w, e, a, b⟩, g => by
    subst e
    rw [List.all_cons, Bool.and_eq_true] at g
    obtain ⟨i1, i2⟩ := any_flat r f b g.2
    refine ⟨by rw [List.all_cons, flat_ok a g.1, i1]; rfl, ?_⟩
    unfold inV at *
    rw [List.any_cons, List.any_cons, i2, eqFlat_ok a r g.1 f]
theorem inL_ok (hK : X.K = G.K) (hu : X.A.units + 65 < cLine) (R : Rep G m L H) {x y : LV} {vx vy : V} (rx : RV G m H x vx) (ry : RV G m H y vy) {b : Bool} (h : inL L x y = some b) {Q : VK} :
    (Q (.bl b) H → WOp X (compareOp .In) vx vy H Q) ∧ (Q (.bl (!b)) H → WOp X (compareOp .NotIn) vx vy H Q) := by
  unfold inL at h
  split at h
  · rename_i kvs hd
    split at h
    · rename_i k hk
      split at h
      · rename_i hkd
        cases h
        obtain ⟨a, e, d⟩ := dctOf_ok R hd ry
        obtain ⟨ky, e1, e2⟩ := toDK_ok hk rx
        subst e e1 e2
        obtain ⟨kv, rd, r⟩ := d.kd hkd
        have g := RKs.get ky r
        have hs : (dget kvs (.k ky)).isSome = (valV kv ky).isSome := by
          cases hh : dget kvs (.k ky) with
          | some x => obtain ⟨v, h1, _⟩ := g.1 x hh; rw [h1]; rfl
          | none => rw [g.2 hh]; rfl
        rw [hs]
        have gg : DGet H a (kV ky) (valV kv ky) := .inl ⟨kv, ky, rd, rfl, rfl⟩
        refine ⟨fun q pins s σ v u I rv ru => ?_, fun q pins s σ v u I rv ru => ?_⟩
        · cases (show u = _ from ru)
          exact d_in (by omega) I gg rv fun s' I' => ⟨.bl _, H, I', rfl, q⟩
        · cases (show u = _ from ru)
          exact d_notIn (by omega) I gg rv fun s' I' => ⟨.bl _, H, I', rfl, q⟩
      · cases h
    · cases h
  · split at h
    · split at h
      · split at h
        · rename_i a hs
          cases h
          cases (show vx = _ from rx); cases (show vy = _ from ry)
          have ea : a = ⟨#[a.cps.getD 0 0]⟩ := by
            obtain ⟨⟨l⟩⟩ := a
            match l, hs with
            | [c], _ => rfl
          have ev : V.str a = V.str ⟨#[a.cps.getD 0 0]⟩ := congrArg V.str ea
          exact ⟨fun q => WOp.of op_in_sign ⟨_, _, ev, rfl, q⟩, fun q => WOp.of op_notIn_sign ⟨_, _, ev, rfl, q⟩⟩
        · cases h
      · cases h
    · split at h
      · rename_i ys hs
        cases h
        obtain ⟨a, vs, e, st, r⟩ := ry
        subst e
        obtain ⟨i1, i2⟩ := any_flat rx hs.1 r hs.2
        exact ⟨fun q => WOp.of op_in_seq ⟨a, vs, rfl, .inr (by rw [hK]; exact st.sq), flat_ok rx hs.1, i1, by rw [if_neg Bool.false_ne_true, i2]; exact q⟩,
          fun q => WOp.of op_notIn_seq ⟨a, vs, rfl, .inr (by rw [hK]; exact st.sq), flat_ok rx hs.1, i1, by rw [if_pos rfl, i2]; exact q⟩⟩
      · cases h
    · split at h
      · rename_i d ds h1 h2
        split at h
        · rename_i hs
          cases h
          have a := toPD_ok R h1 rx
          have b := toPD_ok R h2 ry
          rw [← hK] at a b
          have hp : PyData.plainAll ds = true := by have := toPD_plain h2; simpa only [PyData.plain] using this
          exact ⟨fun q => WOp.of (op_inP (by omega)) ⟨d, ds, a, b, toPD_plain h1, hp, hs, q⟩, fun q => WOp.of (op_notInP (by omega)) ⟨d, ds, a, b, toPD_plain h1, hp, hs, q⟩⟩
        · cases h
      · cases h
end
end Ev

set_option maxHeartbeats 4000000
/-! Ev4: subscripts, slices, built-in functions by values. -/
namespace Ev
open PySem PySem.Spec PyProof.Rows L2

/-! ### subscripts -/
def idxL (L : List LO) (x y : LV) : Option LV := match dctOf L x with
  | some kvs => match toDK y with
    | some k => dget kvs k
    | none => none
  | none => match y with
    | .int i => match x with
      | .str z => if z.length ≤ sizeLine then (atI z.cps.toList i).map fun c => .str ⟨#[c]⟩ else none
      | x => match itemsOf L x with
        | some xs => atI xs i
        | none => none
    | _ => none
/-- the part lo:hi -/
def cutG {α : Type} (xs : List α) (lo hi : Option Int) : List α := (xs.drop (HT.sIx xs.length 0 lo)).take (HT.sIx xs.length xs.length hi - HT.sIx xs.length 0 lo)
def sliceL (mu : Bool) (x : LV) (lo hi : Option Int) (L : List LO) : Res LV := match x with
  | .str z => if z.length ≤ sizeLine then .ok (.str (cutS z lo hi)) L else .fail
  | .tup xs => if HT.sIx xs.length 0 lo = 0 ∧ HT.sIx xs.length xs.length hi = xs.length then .fail else .ok (.tup (cutG xs lo hi)) L
  | x => match seqOf L x with
    | some xs => newL mu (cutG xs lo hi) L
    | none => .fail
section
variable {G : GI} {m : List Addr} {L : List LO} {H : Hp} {X : Cx}
theorem RVs.atI {xs : List LV} {vs : List V} (r : RVs G m H xs vs) {i : Int} {x : LV} (h : atI xs i = some x) : ∃ v, atI vs i = some v ∧ RV G m H x v := by
  unfold L2.atI at *
  rw [r.length]
  cases e : ixN xs.length i with
  | none => rw [e] at h; cases h
  | some j => rw [e] at h; exact r.get h
theorem RVs.cut {xs : List LV} {vs : List V} (r : RVs G m H xs vs) (lo hi : Option Int) : RVs G m H (cutG xs lo hi) (cutV vs lo hi) := by
  unfold cutG cutV
  rw [r.length]
  exact (r.drop _).take _
theorem sl_ok (hK : X.K = G.K) (R : Rep G m L H) {x : LV} {v : V} (r : RV G m H x v) {mu : Bool} {lo hi : Option Int} {Q : VK} (h : PostE G m H (sliceL mu x lo hi L) Q) : rSlS v lo hi H Q ∨ rSlT X.K v lo hi H Q ∨ rSlL X.K v lo hi H Q := by
  unfold sliceL at h
  split at h
  · split at h
    · cases (show v = _ from r)
      exact .inl ⟨_, rfl, by assumption, h.self R rfl⟩
    · exact h.elim
  · split at h
    · exact h.elim
    · rename_i hc
      obtain ⟨a, vs, e, s, r⟩ := r
      exact .inr (.inl ⟨a, vs, e, by rw [hK]; exact s.sq, by rw [r.length]; exact hc, newT_ok R (r.cut lo hi) h⟩)
  · split at h
    · rename_i xs hx
      obtain ⟨a, vs, e, s, r⟩ := seqOf_ok R hx r
      exact .inr (.inr ⟨a, vs, e, by rw [hK]; exact s, newL_ok R (r.cut lo hi) h⟩)
    · exact h.elim
end

/-! ### built-in functions -/
def tyName (L : List LO) : LV → Option String
  | .non => some "NoneType"
  | .bl _ => some "bool"
  | .int _ => some "int"
  | .str _ => some "str"
  | .tup _ => some "tuple"
  | .lst _ => some "list"
  | .dct kvs => if kDict kvs = true then some "dict" else none
  | .ref i => match L[i]? with
    | some (.lst _) => some "list"
    | some (.dct kvs) => if kDict kvs = true then some "dict" else none
    | some (.lkd kvs) => if kDict kvs = true then some "dict" else none
    | _ => none
  | _ => none
def tyAll : List String := ["NoneType", "bool", "int", "str", "tuple", "list", "dict"]
def subTy (a b : String) : Bool := decide (a = b) || (decide (a = "bool") && decide (b = "int"))
theorem kitB_all : ∀ a ∈ tyAll, ∀ b ∈ tyAll, b ≠ "NoneType" → kitB a b = some (subTy a b) := by
  have h : (tyAll.all fun a => tyAll.all fun b => decide (b = "NoneType") || decide (kitB a b = some (subTy a b))) = true := by decide +kernel
  intro a ha b hb n
  have := List.all_eq_true.mp (List.all_eq_true.mp h a ha) b hb
  simp only [Bool.or_eq_true, decide_eq_true_eq] at this
  exact this.resolve_left n
section
variable {G : GI} {m : List Addr} {L : List LO} {H : Hp} {X : Cx}
theorem tyName_mem {x : LV} {t : String} (h : tyName L x = some t) : t ∈ tyAll := by
  unfold tyName at h
  repeat' split at h
  all_goals first | (cases h; decide) | (simp at h)
theorem dk_ty {a : Addr} {kv : List (Key × V)} (h : Rd H a (.dK kv)) : TyX G.K H (.ref a) (.type "dict") := by
  rcases h with h | ⟨o, h⟩
  · exact .base (.dK h)
  · exact .fDict h
theorem tyName_ok (R : Rep G m L H) : ∀ {x : LV} {v : V} {t : String}, tyName L x = some t → RV G m H x v → TyX G.K H v (.type t)
  | .non, v, d, h, r => by cases h; cases (show v = _ from r); exact .base .non
  | .bl b, v, d, h, r => by cases h; cases (show v = _ from r); exact .base (.bl b)
  | .int i, v, d, h, r => by cases h; cases (show v = _ from r); exact .base (.int i)
  | .str x, v, d, h, r => by cases h; cases (show v = _ from r); exact .base (.str x)
  | .tup xs, v, d, h, ⟨a, vs, e, s, r⟩ => by
    subst e; cases h
    rcases s with ⟨_, _, s | ⟨o, s⟩⟩ | s
    · exact .base (.tup s)
    · exact .fTuple s
    · rcases s with (s | ⟨o, s⟩) | ⟨o, its, n, hk, hc, _⟩
      · cases s
      · cases s
      · exact .kTuple hk hc
  | .lst xs, v, d, h, ⟨a, vs, e, s, r⟩ => by
    subst e; cases h
    rcases s with ⟨_, _, s | ⟨o, s⟩⟩ | s
    · exact .base (.lst s)
    · exact .base (.frz s)
    · rcases s with (s | ⟨o, s⟩) | ⟨o, its, n, hk, hc, _⟩
      · cases s
      · cases s
      · exact .kList hk hc
  | .dct kvs, v, d, h, ⟨a, e, _, _, dd⟩ => by
    subst e
    have h : (if kDict kvs = true then some "dict" else none) = some d := h
    split at h
    · cases h
      obtain ⟨kv, rd, _⟩ := dd.kd (by assumption)
      exact dk_ty rd
    · cases h
  | .ref i, v, d, h, ⟨a, e, hm⟩ => by
    subst e
    have h : (match L[i]? with
      | some (.lst _) => some "list"
      | some (.dct kvs) => if kDict kvs = true then some "dict" else none
      | some (.lkd kvs) => if kDict kvs = true then some "dict" else none
      | _ => none) = some d := h
    split at h
    · rename_i xs hx
      cases h
      obtain ⟨b, hb, vs, e2, r⟩ := R.at hx
      rw [hm] at hb; cases hb
      exact .base (.lst e2)
    · rename_i kvs hx
      split at h
      · cases h
        obtain ⟨b, hb, ro⟩ := R.at hx
        rw [hm] at hb; cases hb
        obtain ⟨kv, rd, _⟩ := DcX.kd (show DcX (fun u => H a = some u) (RKs G m H kvs) from ro) (by assumption)
        exact dk_ty (.inl rd)
      · cases h
    · rename_i kvs hx
      split at h
      · cases h
        obtain ⟨b, hb, o, ro⟩ := R.at hx
        rw [hm] at hb; cases hb
        obtain ⟨kv, rd, _⟩ := DcX.kd ro (by assumption)
        exact dk_ty (.inr ⟨o, rd⟩)
      · cases h
    · cases h
  | .ty _, _, _, h, _ => nomatch h
end
/-- the ints of a list -/
def intsOf : List LV → Option (List Int)
  | [] => some []
  | .int i :: t => (intsOf t).map (i :: ·)
  | _ => none
def blsOf : List LV → Option (List Bool)
  | [] => some []
  | .bl i :: t => (blsOf t).map (i :: ·)
  | _ => none
def strsOf : List LV → Option (List Str)
  | [] => some []
  | .str i :: t => (strsOf t).map (i :: ·)
  | _ => none
def keyStrs : List (DK × LV) → Option (List Str)
  | [] => some []
  | (.k (.inr x), _) :: t => (keyStrs t).map (x :: ·)
  | _ => none
section
variable {G : GI} {m : List Addr} {L : List LO} {H : Hp} {X : Cx}
theorem intsOf_ok : ∀ {xs : List LV} {vs : List V} {ns : List Int}, intsOf xs = some ns → RVs G m H xs vs → vs = ns.map V.int
  | [], vs, ns, h, r => by cases h; exact r
  | .int i :: t, vs, ns, h, ⟨v, r, e, a, b⟩ => by
    subst e
    obtain ⟨n', h1, h2⟩ := Option.map_eq_some_iff.mp h
    subst h2
    cases (show v = _ from a)
    rw [intsOf_ok h1 b]; rfl
  | .non :: _, _, _, h, _ => nomatch h
  | .bl _ :: _, _, _, h, _ => nomatch h
  | .str _ :: _, _, _, h, _ => nomatch h
  | .ty _ :: _, _, _, h, _ => nomatch h
  | .tup _ :: _, _, _, h, _ => nomatch h
  | .lst _ :: _, _, _, h, _ => nomatch h
  | .dct _ :: _, _, _, h, _ => nomatch h
  | .ref _ :: _, _, _, h, _ => nomatch h
theorem blsOf_ok : ∀ {xs : List LV} {vs : List V} {ns : List Bool}, blsOf xs = some ns → RVs G m H xs vs → vs = ns.map V.bl
  | [], vs, ns, h, r => by cases h; exact r
  | .bl i :: t, vs, ns, h, ⟨v, r, e, a, b⟩ => by
    subst e
    obtain ⟨n', h1, h2⟩ := Option.map_eq_some_iff.mp h
    subst h2
    cases (show v = _ from a)
    rw [blsOf_ok h1 b]; rfl
  | .non :: _, _, _, h, _ => nomatch h
  | .int _ :: _, _, _, h, _ => nomatch h
  | .str _ :: _, _, _, h, _ => nomatch h
  | .ty _ :: _, _, _, h, _ => nomatch h
  | .tup _ :: _, _, _, h, _ => nomatch h
  | .lst _ :: _, _, _, h, _ => nomatch h
  | .dct _ :: _, _, _, h, _ => nomatch h
  | .ref _ :: _, _, _, h, _ => nomatch h
theorem strsOf_ok : ∀ {xs : List LV} {vs : List V} {ns : List Str}, strsOf xs = some ns → RVs G m H xs vs → vs = ns.map V.str
  | [], vs, ns, h, r => by cases h; exact r
  | .str i :: t, vs, ns, h, ⟨v, r, e, a, b⟩ => by
    subst e
    obtain ⟨n', h1, h2⟩ := Option.map_eq_some_iff.mp h
    subst h2
    cases (show v = _ from a)
    rw [strsOf_ok h1 b]; rfl
  | .non :: _, _, _, h, _ => nomatch h
  | .int _ :: _, _, _, h, _ => nomatch h
  | .bl _ :: _, _, _, h, _ => nomatch h
  | .ty _ :: _, _, _, h, _ => nomatch h
  | .tup _ :: _, _, _, h, _ => nomatch h
  | .lst _ :: _, _, _, h, _ => nomatch h
  | .dct _ :: _, _, _, h, _ => nomatch h
  | .ref _ :: _, _, _, h, _ => nomatch h
theorem RVs.ints (ns : List Int) : RVs G m H (ns.map LV.int) (ns.map V.int) := by
  induction ns with
  | nil => exact rfl
  | cons n t ih => exact ⟨_, _, rfl, rfl, ih⟩
theorem RVs.strs (ns : List Str) : RVs G m H (ns.map LV.str) (ns.map V.str) := by
  induction ns with
  | nil => exact rfl
  | cons n t ih => exact ⟨_, _, rfl, rfl, ih⟩
theorem keyStrs_ok : ∀ {kvs : List (DK × LV)} {kv : List (Key × V)} {ks : List Str}, keyStrs kvs = some ks → RKs G m H kvs (kv.map fun p => (DK.k p.1, p.2)) → kv.map (·.1) = ks.map Sum.inr
  | [], [], ks, h, _ => by cases h; rfl
  | [], _ :: _, _, _, h => nomatch (show _ = _ from h)
  | (k, x) :: t, [], _, _, ⟨v, r, e, _⟩ => by simp at e
  | (k, x) :: t, (j, u) :: w, ks, h, ⟨v, r, e, a, b⟩ => by
    simp only [List.map_cons, List.cons.injEq] at e
    obtain ⟨e1, e2⟩ := e
    subst e1 e2
    obtain ⟨ek, ru⟩ := a
    have ek : k = .k j := ek
    subst ek
    cases j with
    | inl n => exact nomatch h
    | inr z =>
      obtain ⟨k', h1, h2⟩ := Option.map_eq_some_iff.mp h
      subst h2
      rw [List.map_cons, List.map_cons, keyStrs_ok h1 b]
theorem keyStrs_kd : ∀ {kvs : List (DK × LV)} {ks : List Str}, keyStrs kvs = some ks → kDict kvs = true
  | [], _, _ => rfl
  | (.k (.inr x), v) :: t, ks, h => by
    obtain ⟨k', h1, h2⟩ := Option.map_eq_some_iff.mp h
    have := keyStrs_kd h1
    unfold kDict at *
    rw [List.all_cons, this]; rfl
  | (.k (.inl _), _) :: _, _, h => nomatch h
  | (.t _, _) :: _, _, h => nomatch h
end
/-- texts in order -/
def strLe (a b : Str) : Bool := !decide (b.cps.toList < a.cps.toList)
def sortStr (xs : List Str) : List Str := xs.mergeSort strLe
def sortInt (xs : List Int) : List Int := xs.mergeSort fun a b => decide (a ≤ b)
theorem strLe_trans (a b c : Str) (h : strLe a b = true) (h' : strLe b c = true) : strLe a c = true := by
  unfold strLe at *
  simp only [Bool.not_eq_true', decide_eq_false_iff_not, List.not_lt] at *
  exact List.le_trans h h'
theorem strLe_total (a b : Str) : (strLe a b || strLe b a) = true := by
  unfold strLe
  simp only [Bool.or_eq_true, Bool.not_eq_true', decide_eq_false_iff_not, List.not_lt]
  exact List.le_total _ _
theorem strLe_anti {a b : Str} (h : strLe a b = true) (h' : strLe b a = true) : a = b := by
  unfold strLe at *
  simp only [Bool.not_eq_true', decide_eq_false_iff_not, List.not_lt] at *
  have := List.le_antisymm h h'
  cases a; cases b
  congr
  exact Array.toList_inj.mp this
theorem sortStr_of {xs ys : List Str} (p : ys.Perm xs) (s : ys.Pairwise fun a b => strLe a b = true) : ys = sortStr xs :=
  List.Perm.eq_of_pairwise (le := fun a b => strLe a b = true) (fun a b _ _ h h' => strLe_anti h h') s (List.pairwise_mergeSort strLe_trans strLe_total xs) (p.trans (List.mergeSort_perm xs strLe).symm)
theorem sortInt_of {xs ys : List Int} (p : ys.Perm xs) (s : ys.Pairwise (· ≤ ·)) : ys = sortInt xs :=
  List.Perm.eq_of_pairwise (le := fun a b : Int => a ≤ b) (fun a b _ _ h h' => Int.le_antisymm h h') s
    ((List.pairwise_mergeSort (le := fun a b : Int => decide (a ≤ b)) (fun a b c h h' => by simp only [decide_eq_true_eq] at *; omega) (fun a b => by simp only [Bool.or_eq_true, decide_eq_true_eq]; omega) xs).imp fun h => by simpa using h)
    (p.trans (List.mergeSort_perm xs _).symm)
theorem sortedS_pw : ∀ {ys : List Str}, sortedS ys = true → ys.Pairwise fun a b => strLe a b = true := by
  have rise : ∀ {ys : List Str} {p : Str}, risingS p ys = true → (p :: ys).Pairwise fun a b => strLe a b = true := by
    intro ys
    induction ys with
    | nil => intro p _; simp
    | cons y t ih =>
      intro p h
      unfold risingS at h
      rw [Bool.and_eq_true] at h
      have i := ih h.2
      rw [ltCps_eq] at h
      have hp : strLe p y = true := h.1
      refine List.Pairwise.cons (fun z hz => ?_) i
      rcases List.mem_cons.mp hz with e | hz
      · rw [e]; exact hp
      · exact strLe_trans p y z hp ((List.pairwise_cons.mp i).1 z hz)
  intro ys h
  cases ys with
  | nil => exact List.Pairwise.nil
  | cons y t => exact rise h

/-- the names of built-in functions and types that are known -/
inductive BF where
  | len | int | abs | min2 | max2 | minl | maxl | isi | sum | all | any | tuple | list | sorted | str | dict | gcd | ord
  deriving DecidableEq
def BF.val : BF → Value
  | .len => .builtin "len"
  | .int => .type "int"
  | .abs => .builtin "abs"
  | .min2 => .builtin "min"
  | .max2 => .builtin "max"
  | .minl => .builtin "min"
  | .maxl => .builtin "max"
  | .isi => .builtin "isinstance"
  | .sum => .builtin "sum"
  | .all => .builtin "all"
  | .any => .builtin "any"
  | .tuple => .type "tuple"
  | .list => .type "list"
  | .sorted => .builtin "sorted"
  | .str => .type "str"
  | .dict => .type "dict"
  | .gcd => .builtin "math.gcd"
  | .ord => .builtin "ord"
def lenL (L : List LO) (x : LV) : Option Nat := match itemsOf L x with
  | some xs => some xs.length
  | none => match dctOf L x with
    | some kvs => if kDict kvs = true then some kvs.length else none
    | none => match x with
      | .str z => if z.length ≤ sizeLine then some z.length else none
      | _ => none
def tysOf : List LV → Option (List String)
  | [] => some []
  | .ty t :: r => if t ∈ tyAll ∧ t ≠ "NoneType" then (tysOf r).map (t :: ·) else none
  | _ => none
def biL (f : BF) (mu : Bool) (args : List LV) (L : List LO) : Res LV := match f, args with
  | .len, [x] => match lenL L x with
    | some n => .ok (.int n) L
    | none => .fail
  | .int, [.int i] => .ok (.int i) L
  | .int, [.bl b] => .ok (.int (if b then 1 else 0)) L
  | .int, [.str a] => match PySem.intText? a with
    | some n => if a.length ≤ 640 then .ok (.int n) L else .fail
    | none => .fail
  | .abs, [.int i] => .ok (.int (if i < 0 then -i else i)) L
  | .min2, [.int i, .int j] => .ok (.int (if j < i then j else i)) L
  | .max2, [.int i, .int j] => .ok (.int (if j > i then j else i)) L
  | .isi, [x, .ty t] => match tyName L x with
    | some a => if t ∈ tyAll ∧ t ≠ "NoneType" then .ok (.bl (subTy a t)) L else .fail
    | none => .fail
  | .sum, [x] => match seqOf L x with
    | some xs => match intsOf xs with
      | some ns => .ok (.int ns.sum) L
      | none => .fail
    | none => .fail
  | .all, [x] => match seqOf L x with
    | some xs => match blsOf xs with
      | some ns => .ok (.bl (ns.all id)) L
      | none => .fail
    | none => .fail
  | .any, [x] => match seqOf L x with
    | some xs => match blsOf xs with
      | some ns => .ok (.bl (ns.any id)) L
      | none => .fail
    | none => .fail
  | .tuple, [x] => match x with
    | .tup xs => .ok (.tup xs) L
    | x => match seqOf L x with
      | some xs => .ok (.tup xs) L
      | none => .fail
  | .list, [x] => match itemsOf L x with
    | some xs => newL mu xs L
    | none => .fail
  | .sorted, [x] => match dctOf L x with
    | some kvs => match keyStrs kvs with
      | some ks => if ks.length < 64 then newL mu ((sortStr ks).map .str) L else .fail
      | none => .fail
    | none => match seqOf L x with
      | some xs => match intsOf xs with
        | some ns => newL mu ((sortInt ns).map .int) L
        | none => match strsOf xs with
          | some ks => if ks.length < 64 then newL mu ((sortStr ks).map .str) L else .fail
          | none => .fail
      | none => .fail
  | .str, [.int i] => if i.natAbs.log2 < 1920 then .ok (.str (toString i)) L else .fail
  | .dict, [x] => match dctOf L x with
    | some kvs => if kDict kvs = true then newD mu kvs L else .fail
    | none => .fail
  | .gcd, [.int i, .int j] => .ok (.int ((Nat.gcd i.natAbs j.natAbs : Nat) : Int)) L
  | .ord, [.str x] => if x.length = 1 then .ok (.int (x.cps.getD 0 0 : Nat)) L else .fail
  | _, _ => .fail
end Ev

set_option maxHeartbeats 4000000
/-! Ev5: the built-in functions do what is told of them. -/
namespace Ev
open PySem PySem.Spec PyProof.Rows L2
section
variable {G : GI} {m : List Addr} {L : List LO} {H : Hp} {X : Cx}
theorem RVs.inv1 {x : LV} {vs : List V} (h : RVs G m H [x] vs) : ∃ v, vs = [v] ∧ RV G m H x v := by
  obtain ⟨v, r, e, a, b⟩ := h
  cases (show r = _ from b)
  exact ⟨v, e, a⟩
theorem RVs.inv2 {x y : LV} {vs : List V} (h : RVs G m H [x, y] vs) : ∃ v u, vs = [v, u] ∧ RV G m H x v ∧ RV G m H y u := by
  obtain ⟨v, r, e, a, b⟩ := h
  obtain ⟨u, e', c⟩ := b.inv1
  subst e'
  exact ⟨v, u, e, a, c⟩
theorem lenL_ok (hK : X.K = G.K) (R : Rep G m L H) {x : LV} {n : Nat} (h : lenL L x = some n) {v : V} (r : RV G m H x v) {Q : VK} (q : Q (.int n) H) : WCall X (.builtin "len") [v] H Q := by
  unfold lenL at h
  split at h
  · rename_i xs hx
    cases h
    obtain ⟨a, vs, e, s, r2⟩ := itemsOf_ok R hx r
    subst e
    exact WCall.of call_len_seq ⟨a, vs, rfl, by rw [hK]; exact s, by rw [r2.length]; exact q⟩
  · split at h
    · rename_i kvs hx
      split at h
      · cases h
        obtain ⟨a, e, d⟩ := dctOf_ok R hx r
        subst e
        obtain ⟨kv, rd, e⟩ := d.kd (by assumption)
        have hl := e.length
        rw [List.length_map] at hl
        intro pins s σ us I ru
        obtain ⟨u, eu, rx⟩ := vals1 ru
        subst eu
        cases rx
        exact d_len I rd fun t s' I' => ⟨.int kv.length, H, I', ⟨t, rfl⟩, by rw [hl]; exact q⟩
      · cases h
    · split at h
      · split at h
        · cases h
          cases (show v = _ from r)
          exact WCall.of call_len_str ⟨_, rfl, by assumption, q⟩
        · cases h
      · cases h
theorem biL_ok (hK : X.K = G.K) (hc : X.calm = true) (R : Rep G m L H) {f : BF} {mu : Bool} {args : List LV} {vs : List V} (r : RVs G m H args vs) {Q : VK} (h : PostE G m H (biL f mu args L) Q) : WCall X f.val vs H Q := by
  unfold biL at h
  split at h
  -- len
  · obtain ⟨v, e, r1⟩ := r.inv1
    subst e
    split at h
    · exact lenL_ok hK R (by assumption) r1 (h.self R rfl)
    · exact h.elim
  -- int
  · obtain ⟨v, e, r1⟩ := r.inv1
    subst e; cases (show v = _ from r1)
    exact WCall.of call_int1 (.inl ⟨_, rfl, h.self R rfl⟩)
  · obtain ⟨v, e, r1⟩ := r.inv1
    subst e; cases (show v = _ from r1)
    exact WCall.of call_int1 (.inr ⟨_, rfl, h.self R rfl⟩)
  · obtain ⟨v, e, r1⟩ := r.inv1
    subst e; cases (show v = _ from r1)
    split at h
    · split at h
      · exact WCall.of call_int_str ⟨_, _, rfl, by assumption, by assumption, h.self R rfl⟩
      · exact h.elim
    · exact h.elim
  -- abs
  · obtain ⟨v, e, r1⟩ := r.inv1
    subst e; cases (show v = _ from r1)
    exact WCall.of call_abs ⟨_, rfl, h.self R rfl⟩
  -- min, max
  · obtain ⟨v, u, e, r1, r'⟩ := r.inv2
    subst e; cases (show v = _ from r1); cases (show u = _ from r')
    exact WCall.of (call_min2 hc) ⟨_, _, rfl, h.self R rfl⟩
  · obtain ⟨v, u, e, r1, r'⟩ := r.inv2
    subst e; cases (show v = _ from r1); cases (show u = _ from r')
    exact WCall.of (call_max2 hc) ⟨_, _, rfl, h.self R rfl⟩
  -- isinstance
  · obtain ⟨v, u, e, r1, r'⟩ := r.inv2
    subst e; cases (show u = _ from r')
    split at h
    · rename_i a ha
      split at h
      · rename_i ht
        exact WCall.of call_isi ⟨_, _, .type a, .type _, _, rfl, .ty _, by rw [hK]; exact tyName_ok R ha r1, kit_ty (kitB_all a (tyName_mem ha) _ ht.1 ht.2), h.self R rfl⟩
      · exact h.elim
    · exact h.elim
  -- sum
  · obtain ⟨v, e, r1⟩ := r.inv1
    subst e
    split at h
    · rename_i xs hx
      split at h
      · rename_i ns hn
        obtain ⟨a, ws, e, s, r2⟩ := seqOf_ok R hx r1
        subst e
        exact WCall.of (cr_sum hc) ⟨a, ns, rfl, (by rw [← intsOf_ok hn r2, hK]; exact s), h.self R rfl⟩
      · exact h.elim
    · exact h.elim
  -- all, any
  · obtain ⟨v, e, r1⟩ := r.inv1
    subst e
    split at h
    · rename_i xs hx
      split at h
      · rename_i ns hn
        obtain ⟨a, ws, e, s, r2⟩ := seqOf_ok R hx r1
        subst e
        exact WCall.of (cr_all hc) ⟨a, ns, rfl, (by rw [← blsOf_ok hn r2, hK]; exact s), h.self R rfl⟩
      · exact h.elim
    · exact h.elim
  · obtain ⟨v, e, r1⟩ := r.inv1
    subst e
    split at h
    · rename_i xs hx
      split at h
      · rename_i ns hn
        obtain ⟨a, ws, e, s, r2⟩ := seqOf_ok R hx r1
        subst e
        exact WCall.of (cr_any hc) ⟨a, ns, rfl, (by rw [← blsOf_ok hn r2, hK]; exact s), h.self R rfl⟩
      · exact h.elim
    · exact h.elim
  -- tuple
  · obtain ⟨v, e, r1⟩ := r.inv1
    subst e
    split at h
    · obtain ⟨a, ws, e, s, r2⟩ := r1
      subst e
      exact WCall.of call_tuple_of ⟨a, ws, rfl, .inr ⟨by rw [hK]; exact s.sq, h.self R ⟨a, ws, rfl, s, r2⟩⟩⟩
    · split at h
      · rename_i xs hx
        obtain ⟨a, ws, e, s, r2⟩ := seqOf_ok R hx r1
        subst e
        exact WCall.of call_tuple_of ⟨a, ws, rfl, .inl ⟨by rw [hK]; exact s, newT_ok R r2 h⟩⟩
      · exact h.elim
  -- list
  · obtain ⟨v, e, r1⟩ := r.inv1
    subst e
    split at h
    · rename_i xs hx
      obtain ⟨a, ws, e, s, r2⟩ := itemsOf_ok R hx r1
      subst e
      exact WCall.of call_list_of ⟨a, ws, rfl, by rw [hK]; exact s, newL_ok R r2 h⟩
    · exact h.elim
  -- sorted
  · obtain ⟨v, e, r1⟩ := r.inv1
    subst e
    split at h
    · rename_i kvs hx
      split at h
      · rename_i ks hk
        split at h
        · rename_i h64
          obtain ⟨a, e, d⟩ := dctOf_ok R hx r1
          subst e
          obtain ⟨kv, rd, e⟩ := d.kd (keyStrs_kd hk)
          refine WCall.of (call_sortedD hc) ⟨a, kv, ks, rfl, rd, keyStrs_ok hk e, h64, fun ys p hp hs hn => ?_⟩
          rw [sortStr_of hp (sortedS_pw hs)]
          exact newL_ok R (RVs.strs _) h p hn
        · exact h.elim
      · exact h.elim
    · split at h
      · rename_i xs hx
        obtain ⟨a, ws, e, s, r2⟩ := seqOf_ok R hx r1
        subst e
        split at h
        · rename_i ns hn
          refine WCall.of cr_sortedI ⟨a, ns, rfl, (by rw [← intsOf_ok hn r2, hK]; exact s), fun ys p hp hs hn => ?_⟩
          rw [sortInt_of hp hs]
          exact newL_ok R (RVs.ints _) h p hn
        · split at h
          · rename_i ks hk
            split at h
            · rename_i h64
              refine WCall.of cr_sortedS ⟨a, ks, rfl, (by rw [← strsOf_ok hk r2, hK]; exact s), h64, fun ys p hp hs hn => ?_⟩
              rw [sortStr_of hp (sortedS_pw hs)]
              exact newL_ok R (RVs.strs _) h p hn
            · exact h.elim
          · exact h.elim
      · exact h.elim
  -- str
  · obtain ⟨v, e, r1⟩ := r.inv1
    subst e; cases (show v = _ from r1)
    split at h
    · exact WCall.of call_str_int ⟨_, rfl, by assumption, h.self R rfl⟩
    · exact h.elim
  -- dict
  · obtain ⟨v, e, r1⟩ := r.inv1
    subst e
    split at h
    · rename_i kvs hx
      split at h
      · obtain ⟨a, e, d⟩ := dctOf_ok R hx r1
        subst e
        obtain ⟨kv, rd, e⟩ := d.kd (by assumption)
        exact WCall.of call_dictD ⟨a, kv, rfl, rd, newDk_ok R e h⟩
      · exact h.elim
    · exact h.elim
  -- gcd
  · obtain ⟨v, u, e, r1, r'⟩ := r.inv2
    subst e; cases (show v = _ from r1); cases (show u = _ from r')
    exact WCall.of cr_gcd ⟨_, _, rfl, h.self R rfl⟩
  -- ord
  · obtain ⟨v, e, r1⟩ := r.inv1
    subst e; cases (show v = _ from r1)
    split at h
    · exact WCall.of call_ord ⟨_, rfl, by assumption, h.self R rfl⟩
    · exact h.elim
  · exact h.elim
end
end Ev

set_option maxHeartbeats 4000000
/-! Ev6: expressions' combinators, targets, what is walked. -/
namespace Ev
open PySem PySem.Spec PyProof.Rows L2

/-! ### argument lists without stars -/
def plainA : Expr → Bool
  | .Starred .. => false
  | _ => true
theorem star_cons {e : Expr} {es : List Expr} {env : Env} (h : plainA e = true) : starEach (e :: es) env = (false, eval e env) :: starEach es env := by
  cases e <;> first | rfl | (exact absurd h (by decide)) | (cases h)
theorem back_plain : ∀ {es : List Expr} {env : Env} {pos : Pos}, es.all plainA = true → (backTo pos (starEach es env)).any (·.1) = false
  | [], _, _, _ => rfl
  | e :: es, env, pos, h => by
    rw [List.all_cons, Bool.and_eq_true] at h
    rw [star_cons h.1]
    show (false || (backTo pos (starEach es env)).any (·.1)) = false
    rw [back_plain h.2]; rfl
theorem back_all : ∀ {es : List Expr} {env : Env} {pos : Pos}, es.all plainA = true → (backTo pos (starEach es env)).all (fun x => !x.1) = true
  | [], _, _, _ => rfl
  | e :: es, env, pos, h => by
    rw [List.all_cons, Bool.and_eq_true] at h
    rw [star_cons h.1]
    show (true && (backTo pos (starEach es env)).all (fun x => !x.1)) = true
    rw [back_all h.2]; rfl

/-! ### posts -/
section
variable {G : GI} {m m2 : List Addr} {H H2 : Hp}
theorem PostE.at {r : Res LV} {Q : VK} (h : PostE G m H r Q) (e : Ext m H m2 H2) : PostE G m2 H2 r Q := by
  cases r with
  | ok x L => exact fun m' H' v e' => h m' H' v (e.trans e')
  | fail => exact h
theorem PostT.at {r : Res Bool} {Q : Bool → Hp → Prop} (h : PostT G m H r Q) (e : Ext m H m2 H2) : PostT G m2 H2 r Q := by
  cases r with
  | ok x L => exact fun m' H' e' => h m' H' (e.trans e')
  | fail => exact h
theorem PostA.at {r : Res (List LV)} {Q : List V → Hp → Prop} (h : PostA G m H r Q) (e : Ext m H m2 H2) : PostA G m2 H2 r Q := by
  cases r with
  | ok x L => exact fun m' H' v e' => h m' H' v (e.trans e')
  | fail => exact h
theorem PostS.at {r : Res (Fl × Sl)} {D : Ends} (h : PostS G m H r D) (e : Ext m H m2 H2) : PostS G m2 H2 r D := by
  cases r with
  | ok x L => obtain ⟨f, s⟩ := x; exact fun m' H' σ e' => h m' H' σ (e.trans e')
  | fail => exact h
end

/-! ### what is shown of an expression, a test, a list of arguments -/
section
variable (G : GI) (cb : CB) (X : Cx)
def SE (e : Expr) (f : LE) : Prop := ∀ (m : List Addr) (L : List LO) (s : Sl) (H : Hp) (σ : L2.St) (Q : VK), Rep G m L H → RS G m H s σ → PostE G m H (f cb s L) Q → WE X e σ H Q
def ST (e : Expr) (f : LT) : Prop := ∀ (m : List Addr) (L : List LO) (s : Sl) (H : Hp) (σ : L2.St) (Q : Bool → Hp → Prop), Rep G m L H → RS G m H s σ → PostT G m H (f cb s L) Q → WT X e σ H Q
def SW (e : Expr) (f : LT) : Prop := ∀ (m : List Addr) (L : List LO) (s : Sl) (H : Hp) (σ : L2.St) (Q : Bool → Hp → Prop), Rep G m L H → RS G m H s σ → PostT G m H (f cb s L) Q → WW X e σ H Q
inductive Al {α β : Type} (R : α → β → Prop) : List α → List β → Prop
  | nil : Al R [] []
  | cons {a : α} {b : β} {as : List α} {bs : List β} : R a b → Al R as bs → Al R (a :: as) (b :: bs)
end
theorem Al.length {α β : Type} {R : α → β → Prop} {as : List α} {bs : List β} (h : Al R as bs) : as.length = bs.length := by
  induction h with
  | nil => rfl
  | cons _ _ ih => simp [ih]

def argsE (cb : CB) (s : Sl) : List LE → List LO → Res (List LV)
  | [], L => .ok [] L
  | f :: r, L => (f cb s L).bind fun x L1 => (argsE cb s r L1).bind fun xs L2 => .ok (x :: xs) L2
theorem argsE_len {cb : CB} {s : Sl} : ∀ {fs : List LE} {L : List LO} {xs : List LV} {L' : List LO}, argsE cb s fs L = .ok xs L' → xs.length = fs.length
  | [], _, _, _, h => by cases h; rfl
  | f :: r, L, xs, L', h => by
    unfold argsE at h
    cases e : f cb s L with
    | fail => rw [e] at h; cases h
    | ok x L1 =>
      rw [e, Res.bind_ok] at h
      cases e2 : argsE cb s r L1 with
      | fail => rw [e2] at h; cases h
      | ok ys L2 =>
        rw [e2, Res.bind_ok] at h
        cases h
        simp [argsE_len e2]

section
variable {G : GI} {cb : CB} {X : Cx} {m : List Addr} {L : List LO} {s : Sl} {H : Hp} {σ : L2.St}
theorem SE.use {e : Expr} {f : LE} {x : LV} {L1 : List LO} {Q : VK} (h : SE G cb X e f) (R : Rep G m L H) (S : RS G m H s σ) (ef : f cb s L = .ok x L1)
    (k : ∀ m1 H1 v, Ext m H m1 H1 → Rep G m1 L1 H1 → RV G m1 H1 x v → Q v H1) : WE X e σ H Q := h m L s H σ Q R S (by rw [ef]; exact k)
theorem ST.use {e : Expr} {f : LT} {b : Bool} {L1 : List LO} {Q : Bool → Hp → Prop} (h : ST G cb X e f) (R : Rep G m L H) (S : RS G m H s σ) (ef : f cb s L = .ok b L1)
    (k : ∀ m1 H1, Ext m H m1 H1 → Rep G m1 L1 H1 → Q b H1) : WT X e σ H Q := h m L s H σ Q R S (by rw [ef]; exact k)
theorem args_ok : ∀ {es : List Expr} {fs : List LE}, Al (SE G cb X) es fs → es.all plainA = true → ∀ {m : List Addr} {L : List LO} {H : Hp} {Q : List V → Hp → Prop}, Rep G m L H → RS G m H s σ → PostA G m H (argsE cb s fs L) Q → WA X es σ H Q
  | _, _, .nil, _, m, L, H, Q, R, S, h => PA.wa pa_nil (h m H [] Ext.refl R rfl)
  | e :: es, f :: fs, .cons ha hr, hp, m, L, H, Q, R, S, h => by
    rw [List.all_cons, Bool.and_eq_true] at hp
    refine PA.wa (pa_cons (WE.pe X e) (WA.pa X es) (star_cons hp.1)) ?_
    unfold argsE at h
    cases ef : f cb s L with
    | fail => rw [ef] at h; exact h.elim
    | ok x L1 =>
      rw [ef, Res.bind_ok] at h
      refine ha.use R S ef fun m1 H1 v e1 R1 r1 => ?_
      cases eg : argsE cb s fs L1 with
      | fail => rw [eg] at h; exact h.elim
      | ok xs L2 =>
        rw [eg, Res.bind_ok] at h
        refine args_ok hr hp.2 R1 (S.mono e1.le) ?_
        rw [eg]
        exact fun m2 H2 vs e2 R2 r2 => h m2 H2 (v :: vs) (e1.trans e2) R2 (.cons (r1.mono e2.le) r2)
/-- the arguments, evaluated -/
theorem args_use {es : List Expr} {fs : List LE} (ha : Al (SE G cb X) es fs) (hp : es.all plainA = true) (R : Rep G m L H) (S : RS G m H s σ) {xs : List LV} {L1 : List LO} (ef : argsE cb s fs L = .ok xs L1) {Q : List V → Hp → Prop}
    (k : ∀ m1 H1 vs, Ext m H m1 H1 → Rep G m1 L1 H1 → RVs G m1 H1 xs vs → Q vs H1) : WA X es σ H Q := args_ok ha hp R S (by rw [ef]; exact k)

/-! ### the combinators -/
def varE (i : Nat) : LE := fun _ s L => match s[i]? with
  | some (some x) => .ok x L
  | _ => .fail
def cE (x : LV) : LE := fun _ _ L => .ok x L
theorem se_var {i : Nat} {x : Str} {pos : Pos} (hN : X.N[i]? = some x) (hv : Vis X.env.scope x) (hd : (x == ("__debug__" : Str)) = false) (hcd : (x == ("__classdict__" : Str)) = false) : SE G cb X (.Name x pos) (varE i) := by
  intro m L s H σ Q R S h
  unfold varE at h
  split at h
  · rename_i y e
    obtain ⟨v, e2, r⟩ := S.at' i y e
    exact PE.we (pe_var hN hv hd hcd) ⟨v, e2, h.self R r⟩
  · exact h.elim
theorem se_int {i : Int} {j : Nat} {pos : Pos} : SE G cb X (.Constant (.int i) j pos) (cE (.int i)) := fun m L s H σ Q R S h => PE.we pe_int (PostE.self R h rfl)
theorem se_str {i : Str} {j : Nat} {pos : Pos} : SE G cb X (.Constant (.str i) j pos) (cE (.str i)) := fun m L s H σ Q R S h => PE.we pe_str (PostE.self R h rfl)
theorem se_bl {i : Bool} {j : Nat} {pos : Pos} : SE G cb X (.Constant (.bool i) j pos) (cE (.bl i)) := fun m L s H σ Q R S h => PE.we pe_bl (PostE.self R h rfl)
theorem se_non {j : Nat} {pos : Pos} : SE G cb X (.Constant .none j pos) (cE .non) := fun m L s H σ Q R S h => PE.we pe_non (PostE.self R h rfl)
theorem se_glob {x : Str} {lv : LV} {pos : Pos} (hg : Gl X x) (hd : (x == ("__debug__" : Str)) = false) (hc : ∃ u v, X.mg x = some u ∧ RelV v u ∧ ∀ m H, RV G m H lv v) : SE G cb X (.Name x pos) (cE lv) := fun m L s H σ Q R S h =>
  let ⟨u, v, hm, r, rv⟩ := hc
  PE.we (pe_glob hg hm r hd) (PostE.self R h (rv m H))
theorem se_ty {x : Str} {n : String} {pos : Pos} (hg : Gl X x) (hm : X.mg x = none) (hv : bootBuiltins x = some (.type n)) (hn : x ≠ "__name__") (hd : (x == ("__debug__" : Str)) = false) : SE G cb X (.Name x pos) (cE (.ty n)) := fun m L s H σ Q R S h =>
  PE.we (pe_bltn (v := .ty n) hg hm hv rfl hn hd) (PostE.self R h rfl)

def tupE (fs : List LE) : LE := fun cb s L => (argsE cb s fs L).bind fun xs L1 => .ok (.tup xs) L1
def lstE (mu : Bool) (fs : List LE) : LE := fun cb s L => (argsE cb s fs L).bind fun xs L1 => newL mu xs L1
def dctE (mu : Bool) : LE := fun _ _ L => newD mu [] L
theorem few_line {n : Nat} (h : n ≤ 1000) : n ≤ sizeLine := by rw [sizeLine_eq]; omega
theorem se_tup {es : List Expr} {fs : List LE} {k : Nat} {pos : Pos} (ha : Al (SE G cb X) es fs) (hp : es.all plainA = true) (hl : es.length ≤ 1000) : SE G cb X (.Tuple es k pos) (tupE fs) := by
  intro m L s H σ Q R S h
  unfold tupE at h
  cases ef : argsE cb s fs L with
  | fail => rw [ef] at h; exact h.elim
  | ok xs L1 =>
    rw [ef, Res.bind_ok] at h
    refine PE.we (pe_tup (WA.pa X es)) (args_use ha hp R S ef fun m1 H1 vs e1 R1 r1 => ⟨?_, newT_ok R1 r1 (h.at e1)⟩)
    rw [r1.length, argsE_len ef, ← ha.length]
    exact few_line hl
theorem se_lst {es : List Expr} {fs : List LE} {mu : Bool} {pos : Pos} (ha : Al (SE G cb X) es fs) (hp : es.all plainA = true) (hl : es.length ≤ 1000) : SE G cb X (.List es pos) (lstE mu fs) := by
  intro m L s H σ Q R S h
  unfold lstE at h
  cases ef : argsE cb s fs L with
  | fail => rw [ef] at h; exact h.elim
  | ok xs L1 =>
    rw [ef, Res.bind_ok] at h
    refine PE.we (pe_lst (WA.pa X es)) (args_use ha hp R S ef fun m1 H1 vs e1 R1 r1 => ⟨?_, newL_ok R1 r1 (h.at e1)⟩)
    rw [r1.length, argsE_len ef, ← ha.length]
    exact few_line hl
theorem se_dct {mu : Bool} {pos : Pos} : SE G cb X (.Dict [] [] pos) (dctE mu) := fun m L s H σ Q R S h =>
  PE.we pe_dnewK (newDk_ok (kvs := []) (kv := []) R rfl h)

def bin2 (g : LV → LV → List LO → Res LV) (fa fb : LE) : LE := fun cb s L => (fa cb s L).bind fun x L1 => (fb cb s L1).bind fun y L2 => g x y L2
/-- two operands in a row -/
theorem two {a b : Expr} {fa fb : LE} {g : LV → LV → List LO → Res LV} (ha : SE G cb X a fa) (hb : SE G cb X b fb) {Q : VK} (R : Rep G m L H) (S : RS G m H s σ) (h : PostE G m H (bin2 g fa fb cb s L) Q) :
    ∃ x L1 y L2, fa cb s L = .ok x L1 ∧ fb cb s L1 = .ok y L2 ∧ PostE G m H (g x y L2) Q ∧
      ∀ P : V → V → Hp → Prop, (∀ m2 H2 vx vy, Ext m H m2 H2 → Rep G m2 L2 H2 → RV G m2 H2 x vx → RV G m2 H2 y vy → P vx vy H2) → WE X a σ H fun vx H1 => WE X b σ H1 fun vy H2 => P vx vy H2 := by
  unfold bin2 at h
  cases ea : fa cb s L with
  | fail => rw [ea] at h; exact h.elim
  | ok x L1 =>
    rw [ea, Res.bind_ok] at h
    cases eb : fb cb s L1 with
    | fail => rw [eb] at h; exact h.elim
    | ok y L2 =>
      rw [eb, Res.bind_ok] at h
      refine ⟨x, L1, y, L2, rfl, eb, h, fun P k => ?_⟩
      exact ha.use R S ea fun m1 H1 vx e1 R1 r1 => hb.use R1 (S.mono e1.le) eb fun m2 H2 vy e2 R2 r2 => k m2 H2 vx vy (e1.trans e2) R2 (r1.mono e2.le) r2
def binE (op : Operator) (mu : Bool) (fa fb : LE) : LE := bin2 (fun x y L => binL op mu x y L) fa fb
theorem se_bin {a b : Expr} {fa fb : LE} {op : Operator} {mu : Bool} {pos : Pos} (hK : X.K = G.K) (ha : SE G cb X a fa) (hb : SE G cb X b fb) : SE G cb X (.BinOp a op b pos) (binE op mu fa fb) := by
  intro m L s H σ Q R S h
  obtain ⟨x, L1, y, L2, ea, eb, h, k⟩ := two ha hb R S h
  exact PE.we (pe_op (WOp.r X _) (WE.pe X a) (WE.pe X b)) (k _ fun m2 H2 vx vy e R2 rx ry => binL_ok hK R2 rx ry (h.at e))
def optB (L : List LO) : Option Bool → Res LV
  | some b => .ok (.bl b) L
  | none => .fail
def optV (L : List LO) : Option LV → Res LV
  | some b => .ok b L
  | none => .fail
def cmpE (op : CmpOp) (fa fb : LE) : LE := bin2 (fun x y L => optB L (cmpL op L x y)) fa fb
theorem cmpL_ok (hK : X.K = G.K) (hu : X.A.units + 65 < cLine) (R : Rep G m L H) {op : CmpOp} {x y : LV} {vx vy : V} (rx : RV G m H x vx) (ry : RV G m H y vy) {Q : VK} (h : PostE G m H (optB L (cmpL op L x y)) Q) : WOp X (compareOp op) vx vy H Q := by
  cases e : cmpL op L x y with
  | none => rw [e] at h; exact h.elim
  | some b =>
    rw [e] at h
    have q : Q (.bl b) H := PostE.self R h rfl
    have neg : ∀ {o : Option Bool}, o.map (!·) = some b → ∃ c, o = some c ∧ b = !c := fun {o} h => by
      obtain ⟨c, h1, h2⟩ := Option.map_eq_some_iff.mp h
      exact ⟨c, h1, h2.symm⟩
    cases op with
    | Eq => exact (eqL_ok hK hu R rx ry e).1 q
    | NotEq => obtain ⟨c, h1, h2⟩ := neg e; exact (eqL_ok hK hu R rx ry h1).2 (by rw [← h2]; exact q)
    | Lt => exact (ltL_ok R rx ry e).1 q
    | Gt => exact (ltL_ok R ry rx e).2.1 q
    | LtE => obtain ⟨c, h1, h2⟩ := neg e; exact (ltL_ok R ry rx h1).2.2.2 (by rw [← h2]; exact q)
    | GtE => obtain ⟨c, h1, h2⟩ := neg e; exact (ltL_ok R rx ry h1).2.2.1 (by rw [← h2]; exact q)
    | Is => exact (isL_ok rx ry e).1 q
    | IsNot => obtain ⟨c, h1, h2⟩ := neg e; exact (isL_ok rx ry h1).2 (by rw [← h2]; exact q)
    | In => exact (inL_ok hK hu R rx ry e).1 q
    | NotIn => obtain ⟨c, h1, h2⟩ := neg e; exact (inL_ok hK hu R rx ry h1).2 (by rw [← h2]; exact q)
theorem se_cmp {a b : Expr} {fa fb : LE} {op : CmpOp} {pos : Pos} (hK : X.K = G.K) (hu : X.A.units + 65 < cLine) (ha : SE G cb X a fa) (hb : SE G cb X b fb) (hm : behindInMarks op b = false) : SE G cb X (.Compare a [op] [b] pos) (cmpE op fa fb) := by
  intro m L s H σ Q R S h
  obtain ⟨x, L1, y, L2, ea, eb, h, k⟩ := two ha hb R S h
  exact PE.we (pe_cmpR (WOp.r X _) (WE.pe X a) (WE.pe X b) hm) (k _ fun m2 H2 vx vy e R2 rx ry => cmpL_ok hK hu R2 rx ry (h.at e))
/-- a bool as a test -/
def testB (f : LE) : LT := fun cb s L => (f cb s L).bind fun x L1 => match x with
  | .bl b => .ok b L1
  | _ => .fail
theorem st_cmp {a b : Expr} {fa fb : LE} {op : CmpOp} {pos : Pos} (hK : X.K = G.K) (hu : X.A.units + 65 < cLine) (ha : SE G cb X a fa) (hb : SE G cb X b fb) (hm : behindInMarks op b = false) : ST G cb X (.Compare a [op] [b] pos) (testB (cmpE op fa fb)) := by
  intro m L s H σ Q R S h
  refine PT.wt (pt_cmpR (WOp.r X _) (WE.pe X a) (WE.pe X b) hm) ?_
  have h2 : PostE G m H (cmpE op fa fb cb s L) (fun z H3 => ∃ b, z = .bl b ∧ Q b H3) := by
    unfold testB at h
    cases e : cmpE op fa fb cb s L with
    | fail => rw [e] at h; exact h.elim
    | ok x L1 =>
      rw [e, Res.bind_ok] at h
      cases x with
      | bl b => exact fun m' H' v e' R' r => ⟨b, r, h m' H' e' R'⟩
      | _ => exact h.elim
  obtain ⟨x, L1, y, L2, ea, eb, h, k⟩ := two ha hb R S h2
  exact k _ fun m2 H2 vx vy e R2 rx ry => cmpL_ok hK hu R2 rx ry (h.at e)
/-- any other expression as a test -/
def truE (f : LE) : LT := fun cb s L => (f cb s L).bind fun x L1 => match truthL L1 x with
  | some b => .ok b L1
  | none => .fail
def truthOk : Expr → Bool
  | .UnaryOp .. | .BoolOp .. | .IfExp .. | .Compare .. => false
  | _ => true
theorem isTrue_of {e : Expr} {env : Env} (h : truthOk e = true) (whole : Sem Value) : isTrue e env whole = (do let v ← whole; standAt e.pos; holding [v] (truthy v)) := by
  cases e <;> first | rfl | (exact absurd h (by decide)) | (cases h)
theorem st_truth {a : Expr} {fa : LE} (hK : X.K = G.K) (ha : SE G cb X a fa) (ho : truthOk a = true) : ST G cb X a (truE fa) := by
  intro m L s H σ Q R S h
  unfold truE at h
  cases e : fa cb s L with
  | fail => rw [e] at h; exact h.elim
  | ok x L1 =>
    rw [e, Res.bind_ok] at h
    refine PT.wt (pt_truth (WE.pe X a) (isTrue_of ho)) (ha.use R S e fun m1 H1 v e1 R1 r1 => ?_)
    split at h
    · rename_i b hb
      exact ⟨b, by rw [hK]; exact truthL_ok R1 hb r1, h m1 H1 e1 R1⟩
    · exact h.elim
def notT (f : LT) : LT := fun cb s L => (f cb s L).bind fun b L1 => .ok (!b) L1
theorem st_not {a : Expr} {fa : LT} {pos : Pos} (ha : ST G cb X a fa) : ST G cb X (.UnaryOp .Not a pos) (notT fa) := by
  intro m L s H σ Q R S h
  unfold notT at h
  cases e : fa cb s L with
  | fail => rw [e] at h; exact h.elim
  | ok b L1 =>
    rw [e, Res.bind_ok] at h
    exact PT.wt (pt_not (WT.pt X a)) (ha.use R S e fun m1 H1 e1 R1 => h m1 H1 e1 R1)
def andT (f g : LT) : LT := fun cb s L => (f cb s L).bind fun b L1 => match b with
  | true => g cb s L1
  | false => .ok false L1
def orT (f g : LT) : LT := fun cb s L => (f cb s L).bind fun b L1 => match b with
  | true => .ok true L1
  | false => g cb s L1
theorem sw_one {a : Expr} {fa : LT} {op : BoolOp} {pos : Pos} (ha : ST G cb X a fa) : SW G cb X (.BoolOp op [a] pos) fa := by
  intro m L s H σ Q R S h
  cases op with
  | And => exact PW.ww (pw_and1 (WT.pt X a)) (ha m L s H σ Q R S h)
  | Or => exact PW.ww (pw_or1 (WT.pt X a)) (ha m L s H σ Q R S h)
theorem sw_and {a b : Expr} {rest : List Expr} {fa fb : LT} {pos : Pos} (ha : ST G cb X a fa) (hb : SW G cb X (.BoolOp .And (b :: rest) pos) fb) : SW G cb X (.BoolOp .And (a :: b :: rest) pos) (andT fa fb) := by
  intro m L s H σ Q R S h
  unfold andT at h
  cases e : fa cb s L with
  | fail => rw [e] at h; exact h.elim
  | ok c L1 =>
    rw [e, Res.bind_ok] at h
    refine PW.ww (pw_and (WT.pt X a) (WW.pw X _)) (ha.use R S e fun m1 H1 e1 R1 => ?_)
    cases c with
    | true => rw [if_pos rfl]; exact hb m1 L1 s H1 σ Q R1 (S.mono e1.le) (h.at e1)
    | false => rw [if_neg Bool.false_ne_true]; exact h m1 H1 e1 R1
theorem sw_or {a b : Expr} {rest : List Expr} {fa fb : LT} {pos : Pos} (ha : ST G cb X a fa) (hb : SW G cb X (.BoolOp .Or (b :: rest) pos) fb) : SW G cb X (.BoolOp .Or (a :: b :: rest) pos) (orT fa fb) := by
  intro m L s H σ Q R S h
  unfold orT at h
  cases e : fa cb s L with
  | fail => rw [e] at h; exact h.elim
  | ok c L1 =>
    rw [e, Res.bind_ok] at h
    refine PW.ww (pw_or (WT.pt X a) (WW.pw X _)) (ha.use R S e fun m1 H1 e1 R1 => ?_)
    cases c with
    | false => rw [if_neg Bool.false_ne_true]; exact hb m1 L1 s H1 σ Q R1 (S.mono e1.le) (h.at e1)
    | true => rw [if_pos rfl]; exact h m1 H1 e1 R1
theorem st_sw {e : Expr} {f : LT} (h : SW G cb X e f) : ST G cb X e f := fun m L s H σ Q R S p => (h m L s H σ Q R S p).wt
/-! .. as values -/
def andE (f g : LE) : LE := fun cb s L => (f cb s L).bind fun x L1 => match truthL L1 x with
  | some true => g cb s L1
  | some false => .ok x L1
  | none => .fail
def orE (f g : LE) : LE := fun cb s L => (f cb s L).bind fun x L1 => match truthL L1 x with
  | some true => .ok x L1
  | some false => g cb s L1
  | none => .fail
def notE (f : LE) : LE := fun cb s L => (f cb s L).bind fun x L1 => match truthL L1 x with
  | some b => .ok (.bl (!b)) L1
  | none => .fail
def negE (f : LE) : LE := fun cb s L => (f cb s L).bind fun x L1 => match x with
  | .int i => .ok (.int (-i)) L1
  | _ => .fail
theorem se_one {a : Expr} {fa : LE} {op : BoolOp} {pos : Pos} (ha : SE G cb X a fa) : SE G cb X (.BoolOp op [a] pos) fa := fun m L s H σ Q R S h => PE.we (pe_one (WE.pe X a)) (ha m L s H σ Q R S h)
theorem se_and {a b : Expr} {rest : List Expr} {fa fb : LE} {pos : Pos} (hK : X.K = G.K) (ha : SE G cb X a fa) (hb : SE G cb X (.BoolOp .And (b :: rest) pos) fb) : SE G cb X (.BoolOp .And (a :: b :: rest) pos) (andE fa fb) := by
  intro m L s H σ Q R S h
  unfold andE at h
  cases e : fa cb s L with
  | fail => rw [e] at h; exact h.elim
  | ok x L1 =>
    rw [e, Res.bind_ok] at h
    refine PE.we (pe_andT (WE.pe X a) (WE.pe X _)) (ha.use R S e fun m1 H1 v e1 R1 r1 => ?_)
    split at h
    · rename_i hb'
      exact ⟨true, by rw [hK]; exact truthL_ok R1 hb' r1, hb m1 L1 s H1 σ Q R1 (S.mono e1.le) (h.at e1)⟩
    · rename_i hb'
      exact ⟨false, by rw [hK]; exact truthL_ok R1 hb' r1, h m1 H1 v e1 R1 r1⟩
    · exact h.elim
theorem se_or {a b : Expr} {rest : List Expr} {fa fb : LE} {pos : Pos} (hK : X.K = G.K) (ha : SE G cb X a fa) (hb : SE G cb X (.BoolOp .Or (b :: rest) pos) fb) : SE G cb X (.BoolOp .Or (a :: b :: rest) pos) (orE fa fb) := by
  intro m L s H σ Q R S h
  unfold orE at h
  cases e : fa cb s L with
  | fail => rw [e] at h; exact h.elim
  | ok x L1 =>
    rw [e, Res.bind_ok] at h
    refine PE.we (pe_orT (WE.pe X a) (WE.pe X _)) (ha.use R S e fun m1 H1 v e1 R1 r1 => ?_)
    split at h
    · rename_i hb'
      exact ⟨true, by rw [hK]; exact truthL_ok R1 hb' r1, h m1 H1 v e1 R1 r1⟩
    · rename_i hb'
      exact ⟨false, by rw [hK]; exact truthL_ok R1 hb' r1, hb m1 L1 s H1 σ Q R1 (S.mono e1.le) (h.at e1)⟩
    · exact h.elim
theorem se_not {a : Expr} {fa : LE} {pos : Pos} (hK : X.K = G.K) (ha : SE G cb X a fa) : SE G cb X (.UnaryOp .Not a pos) (notE fa) := by
  intro m L s H σ Q R S h
  unfold notE at h
  cases e : fa cb s L with
  | fail => rw [e] at h; exact h.elim
  | ok x L1 =>
    rw [e, Res.bind_ok] at h
    refine PE.we (pe_notT (WE.pe X a)) (ha.use R S e fun m1 H1 v e1 R1 r1 => ?_)
    split at h
    · rename_i b hb'
      exact ⟨b, by rw [hK]; exact truthL_ok R1 hb' r1, h m1 H1 _ e1 R1 rfl⟩
    · exact h.elim
theorem se_neg {a : Expr} {fa : LE} {pos : Pos} (ha : SE G cb X a fa) : SE G cb X (.UnaryOp .USub a pos) (negE fa) := by
  intro m L s H σ Q R S h
  unfold negE at h
  cases e : fa cb s L with
  | fail => rw [e] at h; exact h.elim
  | ok x L1 =>
    rw [e, Res.bind_ok] at h
    refine PE.we (pe_un un_neg (WE.pe X a)) (ha.use R S e fun m1 H1 v e1 R1 r1 => ?_)
    cases x with
    | int i => exact ⟨i, r1, h m1 H1 _ e1 R1 rfl⟩
    | _ => exact h.elim
def ifE (t : LT) (f g : LE) : LE := fun cb s L => (t cb s L).bind fun b L1 => match b with
  | true => f cb s L1
  | false => g cb s L1
theorem se_if {c a b : Expr} {fc : LT} {fa fb : LE} {pos : Pos} (hc : ST G cb X c fc) (ha : SE G cb X a fa) (hb : SE G cb X b fb) : SE G cb X (.IfExp c a b pos) (ifE fc fa fb) := by
  intro m L s H σ Q R S h
  unfold ifE at h
  cases e : fc cb s L with
  | fail => rw [e] at h; exact h.elim
  | ok x L1 =>
    rw [e, Res.bind_ok] at h
    refine PE.we (pe_ifExp (WT.pt X c) (WE.pe X a) (WE.pe X b)) (hc.use R S e fun m1 H1 e1 R1 => ?_)
    cases x with
    | true => rw [if_pos rfl]; exact ha m1 L1 s H1 σ Q R1 (S.mono e1.le) (h.at e1)
    | false => rw [if_neg Bool.false_ne_true]; exact hb m1 L1 s H1 σ Q R1 (S.mono e1.le) (h.at e1)
/-! a <= b <= c -/
def chainE (op op' : CmpOp) (fa fb fc : LE) : LE := fun cb s L => (fa cb s L).bind fun x L1 => (fb cb s L1).bind fun y L2 => match cmpL op L2 x y with
  | some true => (fc cb s L2).bind fun z L3 => optB L3 (cmpL op' L3 y z)
  | some false => .ok (.bl false) L2
  | none => .fail
theorem chain_read {a b c : Expr} {fa fb fc : LE} {op op' : CmpOp} (hK : X.K = G.K) (hu : X.A.units + 65 < cLine) (ha : SE G cb X a fa) (hb : SE G cb X b fb) (hc : SE G cb X c fc) {Q : VK} (R : Rep G m L H) (S : RS G m H s σ)
    (h : PostE G m H (chainE op op' fa fb fc cb s L) Q) : tChain (WOp X (compareOp op)) (WOp X (compareOp op')) (WE X a) (WE X b) (WE X c) σ H Q := by
  unfold chainE at h
  cases ea : fa cb s L with
  | fail => rw [ea] at h; exact h.elim
  | ok x L1 =>
    rw [ea, Res.bind_ok] at h
    refine ha.use R S ea fun m1 H1 vx e1 R1 r1 => ?_
    cases eb : fb cb s L1 with
    | fail => rw [eb] at h; exact h.elim
    | ok y L2 =>
      rw [eb, Res.bind_ok] at h
      refine hb.use R1 (S.mono e1.le) eb fun m2 H2 vy e2 R2 r2 => ?_
      have e12 := e1.trans e2
      split at h
      · rename_i ht
        refine cmpL_ok hK hu R2 (r1.mono e2.le) r2 ?_
        rw [ht]
        refine fun m3 H3 v3 e3 R3 r3 => ⟨true, r3, ?_⟩
        rw [if_pos rfl]
        cases ec : fc cb s L2 with
        | fail => rw [ec] at h; exact h.elim
        | ok z L3 =>
          rw [ec, Res.bind_ok] at h
          refine hc.use R3 (S.mono (e12.trans e3).le) ec fun m4 H4 v4 e4 R4 r4 => ?_
          exact cmpL_ok hK hu R4 (r2.mono (e3.trans e4).le) r4 (h.at (e12.trans (e3.trans e4)))
      · rename_i ht
        refine cmpL_ok hK hu R2 (r1.mono e2.le) r2 ?_
        rw [ht]
        refine fun m3 H3 v3 e3 R3 r3 => ⟨false, r3, ?_⟩
        rw [if_neg Bool.false_ne_true]
        exact h m3 H3 _ (e12.trans e3) R3 rfl
      · exact h.elim
theorem se_chain {a b c : Expr} {fa fb fc : LE} {op op' : CmpOp} {pos : Pos} (hK : X.K = G.K) (hu : X.A.units + 65 < cLine) (ha : SE G cb X a fa) (hb : SE G cb X b fb) (hc : SE G cb X c fc) (hm : lastMarks [op, op'] [b, c] = false) :
    SE G cb X (.Compare a [op, op'] [b, c] pos) (chainE op op' fa fb fc) := fun m L s H σ Q R S h => PE.we (pe_chain (WOp.r X _) (WOp.r X _) (WE.pe X a) (WE.pe X b) (WE.pe X c) hm) (chain_read hK hu ha hb hc R S h)
theorem st_chain {a b c : Expr} {fa fb fc : LE} {op op' : CmpOp} {pos : Pos} (hK : X.K = G.K) (hu : X.A.units + 65 < cLine) (ha : SE G cb X a fa) (hb : SE G cb X b fb) (hc : SE G cb X c fc) (hm : lastMarks [op, op'] [b, c] = false) :
    ST G cb X (.Compare a [op, op'] [b, c] pos) (testB (chainE op op' fa fb fc)) := by
  intro m L s H σ Q R S h
  refine PT.wt (pt_chain (WOp.r X _) (WOp.r X _) (WE.pe X a) (WE.pe X b) (WE.pe X c) hm) ?_
  have h2 : PostE G m H (chainE op op' fa fb fc cb s L) (fun z H3 => ∃ b, z = .bl b ∧ Q b H3) := by
    unfold testB at h
    cases e : chainE op op' fa fb fc cb s L with
    | fail => rw [e] at h; exact h.elim
    | ok x L1 =>
      rw [e, Res.bind_ok] at h
      cases x with
      | bl b => exact fun m' H' v e' R' r => ⟨b, r, h m' H' e' R'⟩
      | _ => exact h.elim
  exact chain_read hK hu ha hb hc R S h2
/-! subscripts and slices -/
def idxE (fa fb : LE) : LE := bin2 (fun x y L => optV L (idxL L x y)) fa fb
def plainI : Expr → Bool
  | .Slice .. => false
  | _ => true
theorem plainIx {b : Expr} (h : plainI b = true) : ∀ o i, subscripted b false o i = operate [o, i] (getItem o i) := by
  intro o i
  cases b <;> first | rfl | (exact absurd h (by decide)) | (cases h)
theorem se_idx {a b : Expr} {fa fb : LE} {pos : Pos} (hK : X.K = G.K) (hu : X.A.units + 65 < cLine) (ha : SE G cb X a fa) (hb : SE G cb X b fb) (hp : plainI b = true) : SE G cb X (.Subscript a b pos) (idxE fa fb) := by
  intro m L s H σ Q R S h
  obtain ⟨x, L1, y, L2, ea, eb, h, k⟩ := two ha hb R S h
  cases e : idxL L2 x y with
  | none => rw [e] at h; exact h.elim
  | some z =>
    rw [e] at h
    unfold idxL at e
    split at e
    · rename_i kvs hd
      split at e
      · rename_i kk hk
        refine PE.we (pe_dget (by omega) (WE.pe X a) (WE.pe X b) (plainIx hp)) (k _ fun m2 H2 vx vy e2 R2 rx ry => ?_)
        obtain ⟨d, ex, dd⟩ := dctOf_ok R2 hd rx
        obtain ⟨ky, e1, ey⟩ := toDK_ok hk ry
        subst ex ey e1
        rcases dd with ⟨kv, rd, r⟩ | ⟨kv, n, rd, r⟩
        · obtain ⟨v, h1, h2⟩ := (RKs.get ky r).1 z e
          exact ⟨d, v, rfl, .inl ⟨kv, ky, rd, rfl, h1.symm⟩, h m2 H2 v e2 R2 h2⟩
        · exfalso
          have : ∀ {kvs : List (DK × LV)} {kv : List (List Key × V)}, RKs G m2 H2 kvs (kv.map fun p => (DK.t p.1, p.2)) → dget kvs (.k ky) = none := by
            intro kvs
            induction kvs with
            | nil => intro kv _; rfl
            | cons p t ih =>
              intro kv h
              cases kv with
              | nil => obtain ⟨v, r, e, _⟩ := h; simp at e
              | cons q w =>
                obtain ⟨v, r, e, a, b⟩ := h
                simp only [List.map_cons, List.cons.injEq] at e
                obtain ⟨e1, e2⟩ := e
                subst e1 e2
                obtain ⟨k, x⟩ := p
                obtain ⟨ek, ru⟩ := a
                have ek : k = .t q.1 := ek
                subst ek
                have i2 := ih b
                unfold dget at *
                simpa [List.find?_cons] using i2
          rw [this r] at e
          cases e
      · cases e
    · split at e
      · rename_i i
        refine PE.we (pe_ix ix_seq (WE.pe X a) (WE.pe X b) (plainIx hp)) (k _ fun m2 H2 vx vy e2 R2 rx ry => ?_)
        cases (show vy = _ from ry)
        split at e
        · split at e
          · cases (show vx = _ from rx)
            obtain ⟨c, h1, h2⟩ := Option.map_eq_some_iff.mp e
            subst h2
            exact .inr (.inr ⟨_, i, c, rfl, rfl, by assumption, h1, h m2 H2 _ e2 R2 rfl⟩)
          · cases e
        · split at e
          · rename_i xs hx
            obtain ⟨p, vs, ex, sq, r⟩ := itemsOf_ok R2 hx rx
            subst ex
            obtain ⟨v, h1, h2⟩ := r.atI e
            rw [← hK] at sq
            rcases sq with sq | sq
            · exact .inl ⟨p, vs, i, v, rfl, rfl, sq, h1, h m2 H2 v e2 R2 h2⟩
            · exact .inr (.inl ⟨p, vs, i, v, rfl, rfl, sq, h1, h m2 H2 v e2 R2 h2⟩)
          · cases e
      · cases e
/-- a part of a slice -/
abbrev LP := CB → Sl → List LO → Res (Option Int)
def partE (f : LE) : LP := fun cb s L => (f cb s L).bind fun x L1 => match x with
  | .int i => .ok (some i) L1
  | _ => .fail
def noE : LP := fun _ _ L => .ok none L
def WPt (X : Cx) (e : Option Expr) : TO := fun σ H Q => ∀ (pins : List (Addr × Obj)) (s : Shared), Inv X pins σ H s → wpAny (model X.prog X.w) X.A (evalPart e X.env) (fun u s' => ∃ o H', Inv X pins σ H' s' ∧ IsPart u o ∧ Q o H') X.xe s
def SP' (e : Option Expr) (f : LP) : Prop := (e = none ∧ f = noE) ∨ ∃ a fa, e = some a ∧ f = partE fa ∧ SE G cb X a fa
end
end Ev

set_option maxHeartbeats 4000000
/-! Ev7: slices, calls, methods of built-in types; targets. -/
namespace Ev
open PySem PySem.Spec PyProof.Rows L2
section
variable {G : GI} {cb : CB} {X : Cx} {m : List Addr} {L : List LO} {s : Sl} {H : Hp} {σ : L2.St}

/-! ### slices -/
theorem WPt.po (X : Cx) (e : Option Expr) : PO X e (WPt X e) := ⟨fun pins s σ H Q I h => h pins s I⟩
theorem PO.wp {e : Option Expr} {t : TO} (h : PO X e t) {Q : Option Int → Hp → Prop} (q : t σ H Q) : WPt X e σ H Q := fun pins s I => h.run pins s σ H Q I q
theorem SP'.use {e : Option Expr} {f : LP} (h : SP' (G := G) (cb := cb) (X := X) e f) (R : Rep G m L H) (S : RS G m H s σ) {o : Option Int} {L1 : List LO} (ef : f cb s L = .ok o L1) {Q : Option Int → Hp → Prop}
    (k : ∀ m1 H1, Ext m H m1 H1 → Rep G m1 L1 H1 → Q o H1) : WPt X e σ H Q := by
  rcases h with ⟨rfl, rfl⟩ | ⟨a, fa, rfl, rfl, ha⟩
  · cases ef
    exact PO.wp po_none (k m H Ext.refl R)
  · unfold partE at ef
    cases e : fa cb s L with
    | fail => rw [e] at ef; cases ef
    | ok x L2 =>
      rw [e, Res.bind_ok] at ef
      cases x with
      | int i =>
        cases ef
        exact PO.wp (po_some (WE.pe X a)) (ha.use R S e fun m1 H1 v e1 R1 r1 => ⟨i, r1, k m1 H1 e1 R1⟩)
      | _ => cases ef
def sliceE (mu : Bool) (fa : LE) (lo hi : LP) : LE := fun cb s L => (fa cb s L).bind fun x L1 => (lo cb s L1).bind fun l L2 => (hi cb s L2).bind fun u L3 => sliceL mu x l u L3
theorem se_slice {a : Expr} {fa : LE} {lo hi : Option Expr} {fl fh : LP} {mu : Bool} {p2 pos : Pos} (hK : X.K = G.K) (ha : SE G cb X a fa) (hl : SP' (G := G) (cb := cb) (X := X) lo fl) (hh : SP' (G := G) (cb := cb) (X := X) hi fh) :
    SE G cb X (.Subscript a (.Slice lo hi none p2) pos) (sliceE mu fa fl fh) := by
  intro m L s H σ Q R S h
  unfold sliceE at h
  cases ea : fa cb s L with
  | fail => rw [ea] at h; exact h.elim
  | ok x L1 =>
    rw [ea, Res.bind_ok] at h
    cases el : fl cb s L1 with
    | fail => rw [el] at h; exact h.elim
    | ok l L2 =>
      rw [el, Res.bind_ok] at h
      cases eh : fh cb s L2 with
      | fail => rw [eh] at h; exact h.elim
      | ok u L3 =>
        rw [eh, Res.bind_ok] at h
        refine PE.we (pe_slice (sl_str.or (sl_tup.or sl_list)) (WE.pe X a) (WPt.po X lo) (WPt.po X hi)) ?_
        refine ha.use R S ea fun m1 H1 v e1 R1 r1 => ?_
        refine hl.use R1 (S.mono e1.le) el fun m2 H2 e2 R2 => ?_
        refine hh.use R2 (S.mono (e1.trans e2).le) eh fun m3 H3 e3 R3 => ?_
        exact sl_ok hK R3 (r1.mono (e2.trans e3).le) (h.at (e1.trans (e2.trans e3)))

/-! ### calls of the program's defs -/
def GI.at (G : GI) (F : List Addr) : GI := { G with hid := F }
def spOf (G : GI) (cb : CB) (x : Str) (n : Nat) : Sp := fun vs H Q _ => ∃ F m L args, Rep (G.at F) m L H ∧ RVs (G.at F) m H args vs ∧ args.length = n ∧ PostE (G.at F) m H (cb x args L) Q
def FunOk (G : GI) (cb : CB) (X : Cx) (k : Nat) (x : Str) (n : Nat) : Prop :=
  ∃ f fd ps, X.mg x = some (.ref f) ∧ PySem.W.keepIn X.K (.ref f) = true ∧ ps.length = n ∧ Binds X.K fd ps [] ∧ FnOk X.prog X.w X.K X.mg X.base CX0 k f fd ps (spOf G cb x n)
def callE (x : Str) (fs : List LE) : LE := fun cb s L => (argsE cb s fs L).bind fun xs L1 => cb x xs L1
theorem se_call {x : Str} {n k : Nat} {p pos : Pos} {es : List Expr} {fs : List LE} (F : FunOk G cb X k x n) (hr : Room k X.A) (hg : Gl X x) (hd : (x == ("__debug__" : Str)) = false) (ha : Al (SE G cb X) es fs) (hp : es.all plainA = true) (hn : es.length = n) :
    SE G cb X (.Call (.Name x p) es [] pos) (callE x fs) := by
  intro m L s H σ Q R S h
  obtain ⟨f, fd, ps, hm, hk, hl, hb, F⟩ := F
  unfold callE at h
  cases ef : argsE cb s fs L with
  | fail => rw [ef] at h; exact h.elim
  | ok xs L1 =>
    rw [ef, Res.bind_ok] at h
    have hlen : xs.length = n := by rw [argsE_len ef, ← ha.length, hn]
    cases es with
    | nil =>
      cases ha
      cases ef
      exact PE.we (pe_call0 F hr hg hm hk hb .nil (E := E0) pass0 hd) ⟨G.hid, m, L, [], R, rfl, hlen, h⟩
    | cons e es =>
      have hp' := hp
      rw [List.all_cons, Bool.and_eq_true] at hp'
      refine PE.we (pe_call F hr hg hm hk hb .nil (E := E0) pass0 (WA.pa X (e :: es)) hd (star_cons hp'.1) (back_plain hp'.2)) ?_
      refine args_use ha hp R S ef fun m1 H1 vs e1 R1 r1 => ?_
      rw [List.append_nil]
      exact ⟨G.hid, m1, L1, xs, R1, r1, hlen, h.at e1⟩

/-! ### calls of built-in functions and types -/
def biE (f : BF) (mu : Bool) (fs : List LE) : LE := fun cb s L => (argsE cb s fs L).bind fun xs L1 => biL f mu xs L1
theorem se_bi {x : Str} {f : BF} {mu : Bool} {p pos : Pos} {e : Expr} {es : List Expr} {fs : List LE} (hK : X.K = G.K) (hc : X.calm = true) (hg : Gl X x) (hv : (X.mg x = none ∧ bootBuiltins x = some f.val) ∨ (X.mg x = some f.val ∧ f = .gcd)) (hn : x ≠ "__name__") (hd : (x == ("__debug__" : Str)) = false)
    (ha : Al (SE G cb X) (e :: es) fs) (hp : (e :: es).all plainA = true) : SE G cb X (.Call (.Name x p) (e :: es) [] pos) (biE f mu fs) := by
  intro m L s H σ Q R S h
  unfold biE at h
  have hp' := hp
  rw [List.all_cons, Bool.and_eq_true] at hp'
  cases ef : argsE cb s fs L with
  | fail => rw [ef] at h; exact h.elim
  | ok xs L1 =>
    rw [ef, Res.bind_ok] at h
    have arg : WA X (e :: es) σ H (fun vs H1 => WCall X f.val vs H1 Q) := args_use ha hp R S ef fun m1 H1 vs e1 R1 r1 => biL_ok hK hc R1 r1 (h.at e1)
    rcases hv with ⟨hm, hv⟩ | ⟨hm, e2⟩
    · cases hf : f.val with
      | builtin id => rw [hf] at hv arg; exact PE.we (pe_callB (WCall.r X _) hg hm hv (WA.pa X (e :: es)) hn hd (star_cons hp'.1) (back_plain hp'.2)) arg
      | type T => rw [hf] at hv arg; exact PE.we (pe_callTy (WCall.r X _) hg hm hv (WA.pa X (e :: es)) hn hd (star_cons hp'.1) (back_plain hp'.2)) arg
      | _ => cases f <;> cases hf
    · subst e2
      exact PE.we (pe_callBfun (id := "math.gcd") (WCall.r X _) hg hm (WA.pa X (e :: es)) hd (star_cons hp'.1) (back_plain hp'.2)) arg

/-! ### methods of built-in types -/
def baseOk : Expr → Bool
  | .Call (.Name _ _) [] [] _ => false
  | _ => true
theorem base_of {o : Expr} (h : baseOk o = true) {a : Str} {env : Env} {w : Sem Value} : attributeBase o a env w = w := by
  unfold attributeBase
  cases o with
  | Call f as ks p =>
    cases f with
    | Name x q =>
      cases as with
      | nil =>
        cases ks with
        | nil => cases h
        | cons _ _ => rfl
      | cons _ _ => rfl
    | _ => rfl
  | _ => rfl
theorem few_of {es : List Expr} {env : Env} {pos : Pos} (hp : es.all plainA = true) (hl : es.length < 20) : ((backTo pos (starEach es env)).all (fun x => !x.1) && (backToKw pos (keywordEach [] env)).all (fun x => x.1.isSome)
    && decide (es.length + ([] : List Keyword).length + (if ([] : List Keyword).isEmpty then 0 else 1) < 30)) = true := by
  rw [back_all hp]
  have : decide (es.length + ([] : List Keyword).length + (if ([] : List Keyword).isEmpty then 0 else 1) < 30) = true := decide_eq_true (by simp; omega)
  rw [this]; rfl
/-- xs.append(x) -/
def appE (fo fa : LE) : LE := fun cb s L => (fo cb s L).bind fun o L1 => match o with
  | .ref i => match L1[i]? with
    | some (.lst _) => (fa cb s L1).bind fun x L2 => match L2[i]? with
      | some (.lst xs) => if xs.length < sizeLine then .ok .non (L2.set i (.lst (xs ++ [x]))) else .fail
      | _ => .fail
    | _ => .fail
  | _ => .fail
theorem lst_at (R : Rep G m L H) {i : Nat} {a : Addr} {xs : List LV} (hm : m[i]? = some a) (h : L[i]? = some (.lst xs)) : ∃ vs, H a = some (.lst vs) ∧ RVs G m H xs vs := by
  obtain ⟨b, hb, ro⟩ := R.at h
  rw [hm] at hb; cases hb
  exact ro
/-- a list of the logical heap is written -/
theorem write_lst (R : Rep G m L H) {i : Nat} {a : Addr} {vs : List V} {ys : List LV} {ws : List V} (hm : m[i]? = some a) (e : H a = some (.lst vs)) (r : RVs G m H ys ws) : Ext m H m (upd H a (.lst ws)) ∧ Rep G m (L.set i (.lst ys)) (upd H a (.lst ws)) := by
  have hf : ∀ o w, H a ≠ some (.frz o w) := fun o w z => by rw [e] at z; cases z
  have ex := Ext.write (u := .lst ws) (List.mem_of_getElem? hm) hf
  exact ⟨ex, R.write hm hf ⟨ws, upd_same, r.mono ex.le⟩⟩
theorem se_app {o a : Expr} {fo fa : LE} {apos cpos : Pos} (hK : X.K = G.K) (ho : SE G cb X o fo) (ha : SE G cb X a fa) (hb : baseOk o = true) (hl : (apos.endLine == cpos.line) = true) (hp : plainA a = true) :
    SE G cb X (.Call (.Attribute o "append" apos) [a] [] cpos) (appE fo fa) := by
  intro m L s H σ Q R S h
  unfold appE at h
  cases eo : fo cb s L with
  | fail => rw [eo] at h; exact h.elim
  | ok ov L1 =>
    rw [eo, Res.bind_ok] at h
    have hpl : [a].all plainA = true := by simp [hp]
    refine PE.we (pe_bm PySem.F.plainAttrs_list PySem.F.slot_list_append PySem.F.type_list_append mt_append (WE.pe X o) (WA.pa X [a]) (base_of hb) (few_of hpl (by simp)) hl (star_cons hp) rfl) ?_
    refine ho.use R S eo fun m1 H1 v e1 R1 r1 => ?_
    split at h
    · rename_i i
      obtain ⟨d, ed, hm⟩ := r1
      subst ed
      split at h
      · rename_i xs0 hx0
        obtain ⟨vs0, e0, _⟩ := lst_at R1 hm hx0
        refine ⟨.inl ⟨rfl, vs0, .inl (.inl e0)⟩, ?_⟩
        cases ea : fa cb s L1 with
        | fail => rw [ea] at h; exact h.elim
        | ok y L2 =>
          rw [ea, Res.bind_ok] at h
          refine PA.wa (pa_cons (WE.pe X a) pa_nil (star_cons hp)) (ha.use R1 (S.mono e1.le) ea fun m2 H2 vy e2 R2 r2 => ?_)
          split at h
          · rename_i xs hx
            split at h
            · have hm2 := (e2.le (F := [])).get hm
              obtain ⟨vs, e3, r3⟩ := lst_at R2 hm2 hx
              obtain ⟨ex, R3⟩ := write_lst R2 hm2 e3 (r3.append (RVs.one r2))
              exact ⟨d, vs, vy, rfl, rfl, e3, by rw [r3.length]; assumption, h m2 _ _ (e1.trans (e2.trans ex)) R3 rfl⟩
            · exact h.elim
          · exact h.elim
      · exact h.elim
    · exact h.elim
/-- d.get(k), d.get(k, x) -/
def getE (fo fk : LE) : LE := fun cb s L => (fo cb s L).bind fun o L1 => match dctOf L1 o with
  | some _ => (fk cb s L1).bind fun k L2 => match dctOf L2 o, toDK k with
    | some kvs, some k => if kDict kvs = true then .ok ((dget kvs k).getD .non) L2 else .fail
    | _, _ => .fail
  | none => .fail
def get2E (fo fk fx : LE) : LE := fun cb s L => (fo cb s L).bind fun o L1 => match dctOf L1 o with
  | some _ => (fk cb s L1).bind fun k L2 => (fx cb s L2).bind fun x L3 => match dctOf L3 o, toDK k with
    | some kvs, some k => if kDict kvs = true then .ok ((dget kvs k).getD x) L3 else .fail
    | _, _ => .fail
  | none => .fail
theorem dctOf_isD (R : Rep G m L H) {x : LV} {kvs : List (DK × LV)} {v : V} (h : dctOf L x = some kvs) (r : RV G m H x v) : ∃ a, v = .ref a ∧ IsD H a ∧ DcX (Rd H a) (RKs G m H kvs) := by
  obtain ⟨a, e, d⟩ := dctOf_ok R h r
  refine ⟨a, e, ?_, d⟩
  rcases d with ⟨kv, rd, _⟩ | ⟨kv, _, rd, _⟩
  · exact .inl ⟨kv, rd⟩
  · exact .inr ⟨kv, rd⟩
/-- a look-up in a dict whose keys are ints and texts -/
theorem look_kd {kvs : List (DK × LV)} {d : Addr} {ky : Key} (dd : DcX (Rd H d) (RKs G m H kvs)) (hk : kDict kvs = true) : ∃ o : Option V, DGet H d (kV ky) o ∧ (∀ x, dget kvs (.k ky) = some x → ∃ v, o = some v ∧ RV G m H x v) ∧ (dget kvs (.k ky) = none → o = none) := by
  obtain ⟨kv, rd, e⟩ := dd.kd hk
  have g := RKs.get ky e
  exact ⟨valV kv ky, .inl ⟨kv, ky, rd, rfl, rfl⟩, g.1, g.2⟩
theorem se_get {o a : Expr} {fo fa : LE} {apos cpos : Pos} (hu : X.A.units + 65 < cLine) (ho : SE G cb X o fo) (ha : SE G cb X a fa) (hb : baseOk o = true) (hl : (apos.endLine == cpos.line) = true) (hp : plainA a = true) :
    SE G cb X (.Call (.Attribute o "get" apos) [a] [] cpos) (getE fo fa) := by
  intro m L s H σ Q R S h
  unfold getE at h
  cases eo : fo cb s L with
  | fail => rw [eo] at h; exact h.elim
  | ok ov L1 =>
    rw [eo, Res.bind_ok] at h
    have hpl : [a].all plainA = true := by simp [hp]
    refine PE.we (pe_dget1 (by omega) (WE.pe X o) (WE.pe X a) ⟨base_of hb, few_of hpl (by simp), hl, by rw [star_cons hp]; rfl⟩) ?_
    refine ho.use R S eo fun m1 H1 v e1 R1 r1 => ?_
    split at h
    · rename_i kv1 hk1
      obtain ⟨d, ed, isd, _⟩ := dctOf_isD R1 hk1 r1
      refine ⟨d, ed, isd, ?_⟩
      cases ea : fa cb s L1 with
      | fail => rw [ea] at h; exact h.elim
      | ok y L2 =>
        rw [ea, Res.bind_ok] at h
        refine ha.use R1 (S.mono e1.le) ea fun m2 H2 vy e2 R2 r2 => ?_
        split at h
        · rename_i kvs k hk2 hky
          split at h
          · rename_i hkd
            obtain ⟨d2, ed2, dd⟩ := dctOf_ok R2 hk2 (r1.mono e2.le)
            have : d2 = d := by rw [ed] at ed2; exact (V.ref.inj ed2).symm
            subst this
            obtain ⟨ky, ek, ev⟩ := toDK_ok hky r2
            subst ek ev
            obtain ⟨o, g, g1, g2⟩ := look_kd (ky := ky) dd hkd
            refine ⟨o, g, h m2 H2 _ (e1.trans e2) R2 ?_⟩
            cases hg : dget kvs (.k ky) with
            | some x => obtain ⟨v, e3, r3⟩ := g1 x hg; rw [e3]; exact r3
            | none => rw [g2 hg]; exact rfl
          · exact h.elim
        · exact h.elim
    · exact h.elim
theorem se_get2 {o a b : Expr} {fo fa fb : LE} {apos cpos : Pos} (hu : X.A.units + 65 < cLine) (ho : SE G cb X o fo) (ha : SE G cb X a fa) (hbb : SE G cb X b fb) (hb : baseOk o = true) (hl : (apos.endLine == cpos.line) = true) (hp : plainA a = true) (hp2 : plainA b = true) :
    SE G cb X (.Call (.Attribute o "get" apos) [a, b] [] cpos) (get2E fo fa fb) := by
  intro m L s H σ Q R S h
  unfold get2E at h
  cases eo : fo cb s L with
  | fail => rw [eo] at h; exact h.elim
  | ok ov L1 =>
    rw [eo, Res.bind_ok] at h
    have hpl : [a, b].all plainA = true := by simp [hp, hp2]
    refine PE.we (pe_dget2 (by omega) (WE.pe X o) (WE.pe X a) (WE.pe X b) ⟨base_of hb, few_of hpl (by simp), hl, by rw [star_cons hp, star_cons hp2]; rfl⟩) ?_
    refine ho.use R S eo fun m1 H1 v e1 R1 r1 => ?_
    split at h
    · rename_i kv1 hk1
      obtain ⟨d, ed, isd, _⟩ := dctOf_isD R1 hk1 r1
      refine ⟨d, ed, isd, ?_⟩
      cases ea : fa cb s L1 with
      | fail => rw [ea] at h; exact h.elim
      | ok y L2 =>
        rw [ea, Res.bind_ok] at h
        refine ha.use R1 (S.mono e1.le) ea fun m2 H2 vy e2 R2 r2 => ?_
        cases eb : fb cb s L2 with
        | fail => rw [eb] at h; exact h.elim
        | ok z L3 =>
          rw [eb, Res.bind_ok] at h
          refine hbb.use R2 (S.mono (e1.trans e2).le) eb fun m3 H3 vz e3 R3 r3 => ?_
          split at h
          · rename_i kvs k hk2 hky
            split at h
            · rename_i hkd
              obtain ⟨d2, ed2, dd⟩ := dctOf_ok R3 hk2 (r1.mono (e2.trans e3).le)
              have : d2 = d := by rw [ed] at ed2; exact (V.ref.inj ed2).symm
              subst this
              obtain ⟨ky, ek, ev⟩ := toDK_ok hky r2
              subst ek ev
              obtain ⟨o, g, g1, g2⟩ := look_kd (ky := ky) dd hkd
              refine ⟨o, g, h m3 H3 _ (e1.trans (e2.trans e3)) R3 ?_⟩
              cases hg : dget kvs (.k ky) with
              | some x => obtain ⟨v, e3, r3⟩ := g1 x hg; rw [e3]; exact r3
              | none => rw [g2 hg]; exact r3
            · exact h.elim
          · exact h.elim
    · exact h.elim

/-! ### targets of names and tuples -/
end
inductive Tg where
  | nm (i : Nat) | tp (ts : List Tg)
mutual
def stT : Tg → LV → Sl → Option Sl
  | .nm i, x, s => some (s.set i (some x))
  | .tp ts, .tup xs, s => stTs ts xs s
  | _, _, _ => none
def stTs : List Tg → List LV → Sl → Option Sl
  | [], [], s => some s
  | t :: ts, x :: xs, s => match stT t x s with
    | some s' => stTs ts xs s'
    | none => none
  | _, _, _ => none
end
mutual
def tgS : Tg → List Nat
  | .nm i => [i]
  | .tp ts => tgSs ts
def tgSs : List Tg → List Nat
  | [] => []
  | t :: ts => tgS t ++ tgSs ts
end
theorem wipe_in {σ : L2.St} {i : Nat} : ∀ {vs : List Nat}, i ∈ vs → i < σ.length → (wipe σ vs)[i]? = some none
  | v :: vs, h, hl => by
    unfold wipe
    by_cases e : v = i
    · subst e; rw [List.getElem?_set_self (by rw [wipe_length]; exact hl)]
    · rw [List.getElem?_set_ne e]
      rcases List.mem_cons.mp h with h | h
      · exact absurd h.symm e
      · exact wipe_in h hl
theorem wipe_set {σ : L2.St} {i : Nat} {x : Option V} {vs : List Nat} (h : i ∈ vs) : wipe (σ.set i x) vs = wipe σ vs := by
  apply List.ext_getElem?
  intro j
  by_cases hj : j ∈ vs
  · by_cases hl : j < σ.length
    · rw [wipe_in hj hl, wipe_in hj (by simpa using hl)]
    · rw [List.getElem?_eq_none (by rw [wipe_length, List.length_set]; omega), List.getElem?_eq_none (by rw [wipe_length]; omega)]
  · rw [wipe_out hj, wipe_out hj, List.getElem?_set_ne (fun e : i = j => hj (by rw [← e]; exact h))]
/-- only the slots ts changed -/
def Sm (ts : List Nat) (σ σ' : L2.St) : Prop := ∀ vs, (∀ i ∈ ts, i ∈ vs) → wipe σ' vs = wipe σ vs
section
variable (G : GI) (X : Cx)
def WG (tg : Expr) : TG := fun v σ H Q => ∀ (pins : List (Addr × Obj)) (s : Shared) (u : Value), Inv X pins σ H s → RelV v u → wpAny (model X.prog X.w) X.A (assign tg X.env u) (fun _ s' => ∃ σ' H', Inv X pins σ' H' s' ∧ Q σ' H') X.xe s
def SG (tg : Expr) (t : Tg) : Prop := ∀ (m : List Addr) (H : Hp) (s s' : Sl) (σ : L2.St) (x : LV) (v : V) (Q : L2.St → Hp → Prop), RS G m H s σ → RV G m H x v → stT t x s = some s' → (∀ σ', RS G m H s' σ' → Sm (tgS t) σ σ' → Q σ' H) → WG X tg v σ H Q
end
section
variable {G : GI} {X : Cx} {m : List Addr} {s : Sl} {H : Hp} {σ : L2.St}
theorem WG.pg (X : Cx) (tg : Expr) : PG X tg (WG X tg) := ⟨fun pins s σ H v u Q I r h => h pins s u I r⟩
theorem PG.wg {tg : Expr} {t : TG} (h : PG X tg t) {v : V} {Q : L2.St → Hp → Prop} (q : t v σ H Q) : WG X tg v σ H Q := fun pins s u I r => h.run pins s σ H v u Q I r q
theorem sg_name {i : Nat} {x : Str} {pos : Pos} (hN : X.N.Nodup) (hi : X.N[i]? = some x) (hx : Loc X.env.scope x) (hf : X.fn x = true ∨ X.env.scope.names.lookup x = some .local) : SG G X (.Name x pos) (.nm i) := by
  intro m H s s' σ x v Q S r e k
  cases e
  exact PG.wg (pg_name hN hi hx hf) (k _ (S.set i r) fun vs h => wipe_set (h i (by unfold tgS; simp)))
theorem each_plain : ∀ {es : List Expr} {env : Env}, es.all plainA = true → (assignEach es env).length = es.length ∧ (assignEach es env).findIdx? (·.1) = none
  | [], _, _ => ⟨rfl, rfl⟩
  | e :: es, env, h => by
    rw [List.all_cons, Bool.and_eq_true] at h
    obtain ⟨i1, i2⟩ := each_plain (env := env) h.2
    have e1 : ∃ t, assignEach (e :: es) env = (false, t) :: assignEach es env := by
      cases e <;> first | exact ⟨_, rfl⟩ | (exact absurd h.1 (by decide)) | (exfalso; cases h.1)
    obtain ⟨t, e1⟩ := e1
    rw [e1]
    refine ⟨by rw [List.length_cons, List.length_cons, i1], ?_⟩
    rw [List.findIdx?_cons, i2]; rfl
theorem sg_tup {es : List Expr} {ts : List Tg} {k : Nat} {pos : Pos} (hc : X.calm = true) (hK : X.K = G.K) (ha : Al (SG G X) es ts) (hp : es.all plainA = true) : SG G X (.Tuple es k pos) (.tp ts) := by
  intro m H s s' σ x v Q S r e kk
  have ex : ∃ xs, x = .tup xs ∧ stTs ts xs s = some s' := by
    cases x <;> first | (cases e; done) | exact ⟨_, rfl, e⟩
  obtain ⟨xs, rfl, e⟩ := ex
  obtain ⟨a, vs, ev, st, r⟩ := r
  subst ev
  -- the items, from the left
  have step : ∀ {es : List Expr} {ts : List Tg}, Al (SG G X) es ts → es.all plainA = true → ∀ {xs : List LV} {vs : List V} {s s' : Sl} {σ : L2.St} {Q : L2.St → Hp → Prop}, RS G m H s σ → RVs G m H xs vs → stTs ts xs s = some s' → (∀ σ', RS G m H s' σ' → Sm (tgSs ts) σ σ' → Q σ' H) →
      vs.length = es.length ∧ ∀ (pins : List (Addr × Obj)) (sh : Shared) (us : List Value), Inv X pins σ H sh → Vals vs us → wpAny (model X.prog X.w) X.A (assignInOrder ((assignEach es X.env).map (·.2)) us) (fun _ s' => ∃ σ' H', Inv X pins σ' H' s' ∧ Q σ' H') X.xe sh := by
    intro es ts ha
    induction ha with
    | nil =>
      intro _ xs vs s s' σ Q S r e k
      cases xs with
      | nil =>
        cases e
        cases (show vs = _ from r)
        exact ⟨rfl, fun pins sh us I rv => pgs_nil.run pins sh σ H [] us Q I rv ⟨rfl, k σ S fun _ _ => rfl⟩⟩
      | cons _ _ => cases e
    | @cons ee tt es ts h1 h2 ih =>
      intro hp xs vs s s' σ Q S r e k
      rw [List.all_cons, Bool.and_eq_true] at hp
      cases xs with
      | nil => cases e
      | cons x xs =>
        obtain ⟨v, w, ev, rx, rr⟩ := r
        subst ev
        unfold stTs at e
        split at e
        · rename_i s1 es1
          have l1 := RVs.length rr
          have l2 : w.length = es.length := by
            -- the length, by any slots
            have hts := h2.length
            have : ∀ {ts : List Tg} {xs : List LV} {s s' : Sl}, stTs ts xs s = some s' → xs.length = ts.length := by
              intro ts
              induction ts with
              | nil => intro xs s s' e; cases xs with | nil => rfl | cons _ _ => cases e
              | cons t ts ih =>
                intro xs s s' e
                cases xs with
                | nil => cases e
                | cons x xs =>
                  unfold stTs at e
                  split at e
                  · simp [ih e]
                  · cases e
            rw [l1, this e, hts]
          refine ⟨by simp [l2], fun pins sh us I rv => ?_⟩
          refine (pgs_cons (WG.pg X ee) (t := WG X ee) (u := fun vs σ H Q => ∀ (pins : List (Addr × Obj)) (sh : Shared) (us : List Value), Inv X pins σ H sh → Vals vs us → wpAny (model X.prog X.w) X.A (assignInOrder ((assignEach es X.env).map (·.2)) us) (fun _ s' => ∃ σ' H', Inv X pins σ' H' s' ∧ Q σ' H') X.xe sh) ⟨fun pins s σ H vs us Q I rv h => h pins s us I rv⟩ (by
            cases ee <;> first | rfl | (exact absurd hp.1 (by decide)) | (cases hp.1))).run pins sh σ H (v :: w) us Q I rv ⟨v, w, rfl, ?_⟩
          exact h1 m H s s1 σ x v _ S rx es1 fun σ1 S1 c1 => (ih hp.2 S1 rr e fun σ2 S2 c2 => k σ2 S2 fun vs hv => by
            unfold tgSs at hv
            rw [c2 vs fun i hi => hv i (List.mem_append_right _ hi), c1 vs fun i hi => hv i (List.mem_append_left _ hi)]).2
        · cases e
  obtain ⟨hl, run⟩ := step ha hp S r e (fun σ' S' c => kk σ' S' (by unfold tgS; exact c))
  obtain ⟨i1, i2⟩ := each_plain (env := X.env) hp
  refine PG.wg (pg_tup (n := es.length) hc (t := fun vs σ H Q => ∀ (pins : List (Addr × Obj)) (sh : Shared) (us : List Value), Inv X pins σ H sh → Vals vs us → wpAny (model X.prog X.w) X.A (assignInOrder ((assignEach es X.env).map (·.2)) us) (fun _ s' => ∃ σ' H', Inv X pins σ' H' s' ∧ Q σ' H') X.xe sh) ⟨fun pins s σ H vs us Q I rv h => h pins s us I rv⟩ i1 i2) ?_
  exact ⟨a, vs, rfl, by rw [hK]; exact st.sq, hl, run⟩
end
end Ev

set_option maxHeartbeats 4000000
/-! Ev8: what is walked; for; comprehensions. -/
namespace Ev
open PySem PySem.Spec PyProof.Rows L2

/-- what is walked: the item of a turn, by the logical heap as it stands then -/
structure Src where
  get : Nat → List LO → Option (Option LV)
  fuel : Nat
def seqG (xs : List LV) : Src := ⟨fun j _ => some xs[j]?, xs.length + 1⟩
def lrefG (i n : Nat) (mk : Nat → LV → LV) : Src := ⟨fun j L => match L[i]? with
  | some (.lst xs) => some (xs[j]?.map (mk j))
  | _ => none, n + 1⟩
structure ItOk (G : GI) (m0 : List Addr) (H0 : Hp) (J : It) (w : Src) : Prop where
  stop : ∀ j m H L, Ext m0 H0 m H → Rep G m L H → w.get j L = some none → J.stop j H
  go : ∀ j m H L x, Ext m0 H0 m H → Rep G m L H → w.get j L = some (some x) → J.go j H
  yld : ∀ j m H L x v H', Ext m0 H0 m H → Rep G m L H → w.get j L = some (some x) → J.yld j H v H' → Ext m H m H' ∧ Rep G m L H' ∧ RV G m H' x v

/-- .. also while a new thing is hidden -/
structure ItAll (G : GI) (m0 : List Addr) (H0 : Hp) (J : It) (w : Src) : Prop where
  one : ItOk G m0 H0 J w
  hide : ∀ D, H0 D = none → ItOk (G.hide D) m0 H0 J w

def WI (X : Cx) (tg iter : Expr) : TI := fun σ H R => ∀ (pins : List (Addr × Obj)) (s : Shared), Inv X pins σ H s →
  wpAny (model X.prog X.w) X.A (eval iter X.env) (fun v s1 => wpAny (model X.prog X.w) X.A (pyIter v) (PIE X pins σ tg R) X.xe s1) X.xe s
theorem WI.pi (X : Cx) (tg iter : Expr) : PI X tg iter (WI X tg iter) := ⟨fun pins s σ H R I h => h pins s I⟩
theorem PI.wi {X : Cx} {tg iter : Expr} {t : TI} (h : PI X tg iter t) {σ : L2.St} {H : Hp} {R : It → Hp → Prop} (q : t σ H R) : WI X tg iter σ H R := fun pins s I => h.run pins s σ H R I q
abbrev LSrc := CB → Sl → List LO → Res Src
def SI (G : GI) (cb : CB) (X : Cx) (tg iter : Expr) (f : LSrc) : Prop := ∀ (m : List Addr) (L : List LO) (s : Sl) (H : Hp) (σ : L2.St) (w : Src) (L1 : List LO) (R : It → Hp → Prop), Rep G m L H → RS G m H s σ → f cb s L = .ok w L1 →
  (∀ m1 H1 J, Ext m H m1 H1 → Rep G m1 L1 H1 → ItAll G m1 H1 J w → R J H1) → WI X tg iter σ H R
def SB (G : GI) (cb : CB) (X : Cx) (body : List Stmt) (f : LSt) : Prop := ∀ (m : List Addr) (L : List LO) (s : Sl) (H : Hp) (σ : L2.St) (D : Ends), Rep G m L H → RS G m H s σ → PostS G m H (f cb s L) D → WB X body D σ H
def SS (G : GI) (cb : CB) (X : Cx) (st : Stmt) (f : LSt) : Prop := ∀ (m : List Addr) (L : List LO) (s : Sl) (H : Hp) (σ : L2.St) (D : Ends), Rep G m L H → RS G m H s σ → PostS G m H (f cb s L) D → WS X st D σ H

section
variable {G : GI} {cb : CB} {X : Cx} {m : List Addr} {L : List LO} {s : Sl} {H : Hp} {σ : L2.St}
/-! ### sources -/
theorem RV.at {m1 : List Addr} {H1 : Hp} {x : LV} {v : V} (r : RV G m H x v) (e : Ext m H m1 H1) : RV G m1 H1 x v := r.mono e.le
theorem it_lst {a : Addr} {xs : List LV} (r : RV G m H (.lst xs) (.ref a)) : ItOk G m H (Itl G.K a) (seqG xs) := by
  have at' : ∀ {m1 H1}, Ext m H m1 H1 → ∃ vs, SqL G.K H1 a vs ∧ RVs G m1 H1 xs vs := fun e => by
    obtain ⟨b, vs, e2, st, r⟩ := r.at e
    cases e2
    exact ⟨vs, st.sq, r⟩
  refine ⟨fun j m1 H1 L1 e R h => ?_, fun j m1 H1 L1 x e R h => ?_, fun j m1 H1 L1 x v H' e R h y => ?_⟩
  · obtain ⟨vs, s, r⟩ := at' e
    have h : xs[j]? = none := Option.some.inj h
    exact ⟨vs, s, by rw [r.length]; exact List.getElem?_eq_none_iff.mp h⟩
  · obtain ⟨vs, s, r⟩ := at' e
    obtain ⟨v, h1, _⟩ := r.get (show xs[j]? = some x from Option.some.inj h)
    exact ⟨vs, v, s, h1⟩
  · obtain ⟨vs, s, r⟩ := at' e
    obtain ⟨u, h1, h2⟩ := r.get (show xs[j]? = some x from Option.some.inj h)
    obtain ⟨rfl, y⟩ := y
    have := y vs s
    rw [h1] at this
    cases this
    exact ⟨Ext.refl, R, h2⟩
theorem it_tup {a : Addr} {xs : List LV} (r : RV G m H (.tup xs) (.ref a)) : ItOk G m H (Itt G.K a) (seqG xs) := by
  have at' : ∀ {m1 H1}, Ext m H m1 H1 → ∃ vs, SqT G.K H1 a vs ∧ RVs G m1 H1 xs vs := fun e => by
    obtain ⟨b, vs, e2, st, r⟩ := r.at e
    cases e2
    exact ⟨vs, st.sq, r⟩
  refine ⟨fun j m1 H1 L1 e R h => ?_, fun j m1 H1 L1 x e R h => ?_, fun j m1 H1 L1 x v H' e R h y => ?_⟩
  · obtain ⟨vs, s, r⟩ := at' e
    have h : xs[j]? = none := Option.some.inj h
    exact ⟨vs, s, by rw [r.length]; exact List.getElem?_eq_none_iff.mp h⟩
  · obtain ⟨vs, s, r⟩ := at' e
    obtain ⟨v, h1, _⟩ := r.get (show xs[j]? = some x from Option.some.inj h)
    exact ⟨vs, v, s, h1⟩
  · obtain ⟨vs, s, r⟩ := at' e
    obtain ⟨u, h1, h2⟩ := r.get (show xs[j]? = some x from Option.some.inj h)
    obtain ⟨rfl, y⟩ := y
    have := y vs s
    rw [h1] at this
    cases this
    exact ⟨Ext.refl, R, h2⟩
def idMk : Nat → LV → LV := fun _ x => x
theorem it_ref {a : Addr} {i n : Nat} (hm : m[i]? = some a) : ItOk G m H (Itl G.K a) (lrefG i n idMk) := by
  have at' : ∀ {m1 H1 L1 j o}, Ext m H m1 H1 → Rep G m1 L1 H1 → (lrefG i n idMk).get j L1 = some o → ∃ xs vs, H1 a = some (.lst vs) ∧ RVs G m1 H1 xs vs ∧ xs[j]? = o := fun {m1 H1 L1 j o} e R h => by
    have h : (match L1[i]? with | some (.lst xs) => some (xs[j]?.map (idMk j)) | _ => none) = some o := h
    split at h
    · rename_i xs hx
      obtain ⟨vs, e2, r⟩ := lst_at R ((e.le (F := [])).get hm) hx
      refine ⟨xs, vs, e2, r, ?_⟩
      have := Option.some.inj h
      rw [← this]
      cases xs[j]? <;> rfl
    · cases h
  refine ⟨fun j m1 H1 L1 e R h => ?_, fun j m1 H1 L1 x e R h => ?_, fun j m1 H1 L1 x v H' e R h y => ?_⟩
  · obtain ⟨xs, vs, e2, r, h⟩ := at' e R h
    exact ⟨vs, .inl (.inl e2), by rw [r.length]; exact List.getElem?_eq_none_iff.mp h⟩
  · obtain ⟨xs, vs, e2, r, h⟩ := at' e R h
    obtain ⟨v, h1, _⟩ := r.get h
    exact ⟨vs, v, .inl (.inl e2), h1⟩
  · obtain ⟨xs, vs, e2, r, h⟩ := at' e R h
    obtain ⟨u, h1, h2⟩ := r.get h
    obtain ⟨rfl, y⟩ := y
    have := y vs (.inl (.inl e2))
    rw [h1] at this
    cases this
    exact ⟨Ext.refl, R, h2⟩
def signsL (z : Str) : List LV := z.cps.toList.map fun c : Nat => LV.str ⟨#[c]⟩
theorem it_str {z : Str} : ItOk G m H (Its z) (seqG (signsL z)) := by
  have len : (signsL z).length = z.cps.size := by unfold signsL; simp
  have get : ∀ {j x}, (signsL z)[j]? = some x → ∃ c, z.cps[j]? = some c ∧ x = LV.str ⟨#[c]⟩ := fun {j x} h => by
    unfold signsL at h
    rw [List.getElem?_map] at h
    obtain ⟨c, h1, h2⟩ := Option.map_eq_some_iff.mp h
    exact ⟨c, by rw [Array.getElem?_toList] at h1; exact h1, h2.symm⟩
  refine ⟨fun j m1 H1 L1 e R h => ?_, fun j m1 H1 L1 x e R h => ?_, fun j m1 H1 L1 x v H' e R h y => ?_⟩
  · have := List.getElem?_eq_none_iff.mp (show (signsL z)[j]? = none from Option.some.inj h)
    rw [len] at this
    exact this
  · have := (List.getElem?_eq_some_iff.mp (show (signsL z)[j]? = some x from Option.some.inj h)).1
    rw [len] at this
    exact this
  · obtain ⟨c, h1, h2⟩ := get (show (signsL z)[j]? = some x from Option.some.inj h)
    obtain ⟨rfl, c', h3, rfl⟩ := y
    rw [h1] at h3; cases h3
    subst h2
    exact ⟨Ext.refl, R, rfl⟩
def keysL (kvs : List (DK × LV)) : List LV := kvs.map fun p => p.1.toLV
theorem RKs.at : ∀ {kvs : List (DK × LV)} {kv : List (Key × V)}, RKs G m H kvs (kv.map fun p => (DK.k p.1, p.2)) → ∀ (j : Nat), (∀ k x, kvs[j]? = some (k, x) → ∃ y v, kv[j]? = some (y, v) ∧ k = .k y ∧ RV G m H x v)
  | [], [], _, j, k, x, h => by simp at h
  | [], _ :: _, h, _, _, _, _ => nomatch (show _ = _ from h)
  | p :: t, [], ⟨v, r, e, _⟩, _, _, _, _ => by simp at e
  | (k, x) :: t, (j, u) :: w, ⟨v, r, e, a, b⟩, i, k', x', h => by
    simp only [List.map_cons, List.cons.injEq] at e
    obtain ⟨e1, e2⟩ := e
    subst e1 e2
    obtain ⟨ek, ru⟩ := a
    have ek : k = .k j := ek
    cases i with
    | zero =>
      obtain ⟨rfl, rfl⟩ : k = k' ∧ x = x' := by simpa using h
      exact ⟨j, u, rfl, ek, ru⟩
    | succ i => exact RKs.at b i k' x' (by simpa using h)
theorem toLV_k (y : Key) : RV G m H (DK.toLV (.k y)) (kV y) := by
  cases y with
  | inl i => exact rfl
  | inr x => exact rfl
/-- a locked dict -/
theorem it_keys {d : Addr} {od : Obj} {kvs : List (DK × LV)} {kv : List (Key × V)} (hd : H d = some (.frz od (.dK kv))) (r : RKs G m H kvs (kv.map fun p => (DK.k p.1, p.2))) : ItOk G m H (Itk d od kv) (seqG (keysL kvs)) := by
  have len : kv.length = (keysL kvs).length := by
    have := RKs.length r
    unfold keysL
    simpa using this
  refine ⟨fun j m1 H1 L1 e R h => ⟨e.frz d od _ hd, ?_⟩, fun j m1 H1 L1 x e R h => ⟨e.frz d od _ hd, ?_⟩, fun j m1 H1 L1 x v H' e R h y => ?_⟩
  · rw [len]
    exact List.getElem?_eq_none_iff.mp (show (keysL kvs)[j]? = none from Option.some.inj h)
  · rw [len]
    exact (List.getElem?_eq_some_iff.mp (show (keysL kvs)[j]? = some x from Option.some.inj h)).1
  · have h : (keysL kvs)[j]? = some x := Option.some.inj h
    unfold keysL at h
    rw [List.getElem?_map] at h
    obtain ⟨⟨k, x'⟩, h1, h2⟩ := Option.map_eq_some_iff.mp h
    obtain ⟨rfl, k', u', h3, rfl⟩ := y
    obtain ⟨y', v', h4, h5, h6⟩ := RKs.at r j k x' h1
    rw [h3] at h4; cases h4
    subst h5
    subst h2
    exact ⟨Ext.refl, R, toLV_k k'⟩
def rangeL (lo : Int) (n : Nat) : List LV := (List.range n).map fun i : Nat => LV.int (lo + (i : Int))
theorem it_range {lo : Int} {n : Nat} : ItOk G m H (Itr lo n) (seqG (rangeL lo n)) := by
  have len : (rangeL lo n).length = n := by unfold rangeL; simp
  refine ⟨fun j m1 H1 L1 e R h => ?_, fun j m1 H1 L1 x e R h => ?_, fun j m1 H1 L1 x v H' e R h y => ?_⟩
  · have := List.getElem?_eq_none_iff.mp (show (rangeL lo n)[j]? = none from Option.some.inj h)
    rw [len] at this
    exact this
  · have := (List.getElem?_eq_some_iff.mp (show (rangeL lo n)[j]? = some x from Option.some.inj h)).1
    rw [len] at this
    exact this
  · have h : (rangeL lo n)[j]? = some x := Option.some.inj h
    obtain ⟨rfl, rfl⟩ := y
    unfold rangeL at h
    rw [List.getElem?_map] at h
    obtain ⟨k, h1, h2⟩ := Option.map_eq_some_iff.mp h
    have hj : j < n := by
      have := (List.getElem?_eq_some_iff.mp h1).1
      simpa using this
    rw [List.getElem?_range hj] at h1
    cases h1
    subst h2
    exact ⟨Ext.refl, R, rfl⟩

/-- what a value is as a thing to be walked -/
def walkL (L : List LO) : LV → Option Src
  | .lst xs => some (seqG xs)
  | .tup xs => some (seqG xs)
  | .str z => some (seqG (signsL z))
  | .ref i => match L[i]? with
    | some (.lst xs) => some (lrefG i xs.length idMk)
    | some (.lkd kvs) => if kDict kvs = true then some (seqG (keysL kvs)) else none
    | _ => none
  | _ => none
def valS (f : LE) : LSrc := fun cb s L => (f cb s L).bind fun x L1 => match walkL L1 x with
  | some w => .ok w L1
  | none => .fail
theorem si_val {tg e : Expr} {f : LE} (hK : X.K = G.K) (ha : SE G cb X e f) : SI G cb X tg e (valS f) := by
  intro m L s H σ w L1 R Rp S h k
  unfold valS at h
  cases ea : f cb s L with
  | fail => rw [ea] at h; cases h
  | ok x L2 =>
    rw [ea, Res.bind_ok] at h
    split at h
    · rename_i w' hw
      cases h
      unfold walkL at hw
      split at hw
      · cases hw
        refine PI.wi (pi_list (WE.pe X e)) (ha.use Rp S ea fun m1 H1 v e1 R1 r1 => ?_)
        obtain ⟨a, vs, ev, st, r⟩ := id r1
        subst ev
        exact ⟨a, rfl, ⟨vs, by rw [hK]; exact st.sq⟩, by rw [hK]; exact k m1 H1 _ e1 R1 ⟨it_lst r1, fun D hD => it_lst (r1.gm (Gm.hide hD))⟩⟩
      · cases hw
        refine PI.wi (pi_tup (WE.pe X e)) (ha.use Rp S ea fun m1 H1 v e1 R1 r1 => ?_)
        obtain ⟨a, vs, ev, st, r⟩ := id r1
        subst ev
        exact ⟨a, rfl, ⟨vs, by rw [hK]; exact st.sq⟩, by rw [hK]; exact k m1 H1 _ e1 R1 ⟨it_tup r1, fun D hD => it_tup (r1.gm (Gm.hide hD))⟩⟩
      · cases hw
        refine PI.wi (pi_str (WE.pe X e)) (ha.use Rp S ea fun m1 H1 v e1 R1 r1 => ?_)
        exact ⟨_, r1, k m1 H1 _ e1 R1 ⟨it_str, fun D hD => it_str⟩⟩
      · split at hw
        · rename_i xs hx
          cases hw
          refine PI.wi (pi_list (WE.pe X e)) (ha.use Rp S ea fun m1 H1 v e1 R1 r1 => ?_)
          obtain ⟨a, ev, hm⟩ := r1
          subst ev
          obtain ⟨vs, e2, r⟩ := lst_at R1 hm hx
          exact ⟨a, rfl, ⟨vs, .inl (.inl e2)⟩, by rw [hK]; exact k m1 H1 _ e1 R1 ⟨it_ref hm, fun D hD => it_ref (G := G.hide D) hm⟩⟩
        · rename_i kvs hx
          split at hw
          · rename_i hkd
            cases hw
            refine PI.wi (pi_keys (WE.pe X e)) (ha.use Rp S ea fun m1 H1 v e1 R1 r1 => ?_)
            obtain ⟨a, ev, hm⟩ := r1
            subst ev
            obtain ⟨b, hb, o, ro⟩ := R1.at hx
            rw [hm] at hb; cases hb
            obtain ⟨kv, rd, r⟩ := ro.kd hkd
            exact ⟨a, o, rfl, .inl ⟨kv, rd, k m1 H1 _ e1 R1 ⟨it_keys rd r, fun D hD => it_keys rd (RKs.gm (Gm.hide hD) r)⟩⟩⟩
          · cases hw
        · cases hw
      · cases hw
    · cases h
/-! range(a), range(a, b) -/
def inRange (i : Int) : Prop := -(2 ^ 62) ≤ i ∧ i < 2 ^ 62
instance (i : Int) : Decidable (inRange i) := inferInstanceAs (Decidable (_ ∧ _))
def rngS (fs : List LE) : LSrc := fun cb s L => (argsE cb s fs L).bind fun xs L1 => match xs with
  | [.int j] => if inRange j then .ok (seqG (rangeL 0 j.toNat)) L1 else .fail
  | [.int i, .int j] => if inRange i ∧ inRange j then .ok (seqG (rangeL i (j - i).toNat)) L1 else .fail
  | _ => .fail
theorem si_rng1 {tg a : Expr} {fa : LE} {p pos : Pos} (hg : Gl X "range") (hm : X.mg "range" = none) (ha : SE G cb X a fa) (hp : plainA a = true) : SI G cb X tg (.Call (.Name "range" p) [a] [] pos) (rngS [fa]) := by
  intro m L s H σ w L1 R Rp S h k
  have hpl : [a].all plainA = true := by simp [hp]
  have al : Al (SE G cb X) [a] [fa] := .cons ha .nil
  unfold rngS at h
  cases ea : argsE cb s [fa] L with
  | fail => rw [ea] at h; cases h
  | ok xs L2 =>
    rw [ea, Res.bind_ok] at h
    refine PI.wi (pi_range1 hg hm (WA.pa X [a]) (by rw [star_cons hp]; rfl)) (args_use al hpl Rp S ea fun m1 H1 vs e1 R1 r1 => ?_)
    split at h
    · split at h
      · rename_i hr
        cases h
        obtain ⟨v, ev, r⟩ := r1.inv1
        subst ev
        cases (show v = _ from r)
        exact ⟨_, rfl, hr.1, hr.2, k m1 H1 _ e1 R1 ⟨it_range, fun D hD => it_range⟩⟩
      · cases h
    · have := argsE_len ea
      simp at this
    · cases h
theorem si_rng2 {tg a b : Expr} {fa fb : LE} {p pos : Pos} (hg : Gl X "range") (hm : X.mg "range" = none) (ha : SE G cb X a fa) (hb : SE G cb X b fb) (hp : plainA a = true) (hp2 : plainA b = true) : SI G cb X tg (.Call (.Name "range" p) [a, b] [] pos) (rngS [fa, fb]) := by
  intro m L s H σ w L1 R Rp S h k
  have hpl : [a, b].all plainA = true := by simp [hp, hp2]
  have al : Al (SE G cb X) [a, b] [fa, fb] := .cons ha (.cons hb .nil)
  unfold rngS at h
  cases ea : argsE cb s [fa, fb] L with
  | fail => rw [ea] at h; cases h
  | ok xs L2 =>
    rw [ea, Res.bind_ok] at h
    refine PI.wi (pi_range2 hg hm (WA.pa X [a, b]) (by rw [star_cons hp, star_cons hp2]; rfl) (by rw [star_cons hp2]; rfl)) (args_use al hpl Rp S ea fun m1 H1 vs e1 R1 r1 => ?_)
    split at h
    · have := argsE_len ea
      simp at this
    · split at h
      · rename_i hr
        cases h
        obtain ⟨v, u, ev, r, r'⟩ := r1.inv2
        subst ev
        cases (show v = _ from r)
        cases (show u = _ from r')
        exact ⟨_, _, rfl, ⟨hr.1.1, hr.1.2, hr.2.1, hr.2.2⟩, k m1 H1 _ e1 R1 ⟨it_range, fun D hD => it_range⟩⟩
      · cases h
    · cases h

/-! ### the loop -/
def loopW (get : Nat → List LO → Option (Option LV)) (t : Tg) (body : LSt) (cb : CB) : Nat → Nat → Sl → List LO → Res (Fl × Sl)
  | 0, _, _, _ => .fail
  | n + 1, j, s, L => match get j L with
    | none => .fail
    | some none => .ok (.next, s) L
    | some (some x) => match stT t x s with
      | none => .fail
      | some s1 => (body cb s1 L).bind fun fs L1 => match fs with
        | (.next, s2) => loopW get t body cb n (j + 1) s2 L1
        | (.cont, s2) => loopW get t body cb n (j + 1) s2 L1
        | (.brk, s2) => .ok (.next, s2) L1
        | (.ret v, s2) => .ok (.ret v, s2) L1
theorem loop_ok {tg : Expr} {t : Tg} {body : List Stmt} {fb : LSt} {J : It} {w : Src} {D : Ends} {m1 : List Addr} {H1 : Hp} {L1 : List LO} (I : ItOk G m1 H1 J w) (hT : SG G X tg t) (hB : SB G cb X body fb) (R1 : Rep G m1 L1 H1) (S1 : RS G m1 H1 s σ)
    (h : PostS G m1 H1 (loopW w.get t fb cb w.fuel 0 s L1) D) :
    ∃ W : Nat → Nat → L2.St → Hp → Prop, (∃ mm, W 0 mm σ H1) ∧ ∀ i mm σ H, W i mm σ H →
      (J.stop i H ∧ D.nx σ H) ∨ (J.go i H ∧ ∃ N : L2.St → Hp → Prop, (∀ σ' H', N σ' H' → ∃ m', m' < mm ∧ W (i + 1) m' σ' H') ∧ ∀ x H', J.yld i H x H' → WG X tg x σ H' fun σ2 H2 => WB X body { D with nx := N, ct := N, bk := D.nx } σ2 H2) := by
  refine ⟨fun i mm σ H => ∃ m L s, Ext m1 H1 m H ∧ Rep G m L H ∧ RS G m H s σ ∧ PostS G m H (loopW w.get t fb cb mm i s L) D, ⟨w.fuel, m1, L1, s, Ext.refl, R1, S1, h⟩, ?_⟩
  rintro i mm σ H ⟨m, L, s, e, R, S, h⟩
  cases mm with
  | zero => exact h.elim
  | succ n =>
    unfold loopW at h
    split at h
    · exact h.elim
    · rename_i hg
      exact .inl ⟨I.stop i m H L e R hg, h m H σ Ext.refl R S⟩
    · rename_i x hg
      refine .inr ⟨I.go i m H L x e R hg, fun σ' H' => ∃ m L s, Ext m1 H1 m H' ∧ Rep G m L H' ∧ RS G m H' s σ' ∧ PostS G m H' (loopW w.get t fb cb n (i + 1) s L) D, fun σ' H' hN => ⟨n, Nat.lt_succ_self n, hN⟩, fun v H' y => ?_⟩
      obtain ⟨e2, R2, r2⟩ := I.yld i m H L x v H' e R hg y
      split at h
      · exact h.elim
      · rename_i s1 hs
        refine hT m H' s s1 σ x v _ (S.mono e2.le) r2 hs fun σ2 S2 _ => ?_
        refine hB m L s1 H' σ2 _ R2 S2 ?_
        cases eb : fb cb s1 L with
        | fail => rw [eb] at h; exact h.elim
        | ok fs L2 =>
          rw [eb, Res.bind_ok] at h
          obtain ⟨f, s2⟩ := fs
          intro m3 H3 σ3 e3 R3 S3
          have e13 : Ext m1 H1 m3 H3 := e.trans (e2.trans e3)
          cases f with
          | next => exact ⟨m3, L2, s2, e13, R3, S3, h.at (e2.trans e3)⟩
          | cont => exact ⟨m3, L2, s2, e13, R3, S3, h.at (e2.trans e3)⟩
          | brk => exact h m3 H3 σ3 (e2.trans e3) R3 S3
          | ret x => exact h m3 H3 σ3 (e2.trans e3) R3 S3
def plainS : Expr → Bool
  | .Set .. => false
  | _ => true
theorem folded_of {e : Expr} {env : Env} (h : plainS e = true) (x : Value) : foldedSetIterable e env x = pure x := by
  cases e <;> first | rfl | (exact absurd h (by decide)) | (cases h)
def forE (src : LSrc) (t : Tg) (body : LSt) : LSt := fun cb s L => (src cb s L).bind fun w L1 => loopW w.get t body cb w.fuel 0 s L1
theorem ss_for {tg iter : Expr} {body : List Stmt} {pos : Pos} {src : LSrc} {t : Tg} {fb : LSt} (hp : PassesOwn (model X.prog X.w) X.A X.env X.xe) (hc : X.calm = true) (hi : SI G cb X tg iter src) (hT : SG G X tg t) (hB : SB G cb X body fb) (hs : plainS iter = true) :
    SS G cb X (.For tg iter body [] pos) (forE src t fb) := by
  intro m L s H σ D R S h
  unfold forE at h
  cases ew : src cb s L with
  | fail => rw [ew] at h; exact h.elim
  | ok w L1 =>
    rw [ew, Res.bind_ok] at h
    refine PS.ws (ps_for hp hc (WI.pi X tg iter) (WG.pg X tg) (WB.pss X body) (folded_of hs)) ?_
    exact hi m L s H σ w L1 _ R S ew fun m1 H1 J e1 R1 I => loop_ok I.one hT hB R1 (S.mono e1.le) (h.at e1)
end
end Ev

set_option maxHeartbeats 4000000
/-! Ev8z: zip(a, b, strict=True) of lists and tuples. -/
namespace Ev
open PySem

/-- lists (true), tuples (false) and their iterators -/
def zIt : Bool → Heap → Addr → Addr → Nat → Prop
  | true => Heap.IsListIter
  | false => Heap.IsTupleIter
def zSq : Bool → Heap → Addr → Array Value → Prop
  | true => Heap.IsList
  | false => Heap.IsTuple
theorem zIt.to {k : Bool} {h h' : Heap} {a l : Addr} {i : Nat} (x : zIt k h a l i) (e : ∀ o, h.get? a = some o → h'.get? a = some o) : zIt k h' a l i := by
  cases k
  · exact Heap.IsTupleIter.at x e
  · exact Heap.IsListIter.at x e
theorem zSq.to {k : Bool} {h h' : Heap} {a : Addr} {xs : Array Value} (x : zSq k h a xs) (e : ∀ o, h.get? a = some o → h'.get? a = some o) : zSq k h' a xs := by
  cases k
  · exact Heap.IsTuple.at x e
  · exact Heap.IsList.at x e
theorem zIt.lt {k : Bool} {h : Heap} {a l : Addr} {i : Nat} (x : zIt k h a l i) : a < h.objs.size := by
  cases k <;> exact let ⟨_, e, _⟩ := x; Heap.lt_size e
theorem zIt.field {k : Bool} {h : Heap} {a l : Addr} {i : Nat} (x : zIt k h a l i) : ∃ o, h.get? a = some o ∧ ∀ v, o.data ≠ .cell v := by
  cases k <;> exact let ⟨o, e, _, d⟩ := x; ⟨o, e, fun v q => by rw [d] at q; cases q⟩

section
variable {prog : Program} {w : World} {A : Around} {E : Value → Shared → Prop} {s : Shared}
theorem z_iter {k : Bool} {l : Addr} {xs : Array Value} {Q : Value → Shared → Prop} (hl : zSq k s.heap l xs)
    (q : ∀ ob, zIt k (s.heap.push ob) s.heap.objs.size l 0 → Q (.ref s.heap.objs.size) { s with heap := s.heap.push ob }) : wpAny (model prog w) A (pyIter (.ref l)) Q E s := by
  cases k
  · exact wpAny_pyIter_tuple hl (q _ ⟨_, Heap.get?_push_size _ rfl, rfl, rfl⟩)
  · exact wpAny_pyIter_list hl (q _ ⟨_, Heap.get?_push_size _ rfl, rfl, rfl⟩)
theorem z_item {k : Bool} {it l : Addr} {i : Nat} {xs : Array Value} {x : Value} {Q : Option Value → Shared → Prop} (hi : zIt k s.heap it l i) (hl : zSq k s.heap l xs) (hx : xs[i]? = some x)
    (q : ∀ h', zIt k h' it l (i + 1) → Heap.SameBut it s.heap h' → Q (some x) { s with heap := h' }) : wpAny (model prog w) A (Builtin.SmallTypes.nextOrEnd (.ref it)) Q E s := by
  unfold Builtin.SmallTypes.nextOrEnd
  refine wpAny_bind (wpAny_attempt ?_)
  cases k
  · exact RZ.nextOf_tuple_item hi hl hx fun h' a b => wpAny_pure (q h' a b)
  · exact wpAny_nextOf_list_item hi hl hx fun h' a b => wpAny_pure (q h' a b)
theorem z_end {k : Bool} {it l : Addr} {i : Nat} {xs : Array Value} {Q : Option Value → Shared → Prop} (hh : A.handled = none) (hi : zIt k s.heap it l i) (hl : zSq k s.heap l xs) (hx : xs[i]? = none)
    (q : ∀ h', Heap.ExtBut it s.heap h' → Q none { s with heap := h' }) : wpAny (model prog w) A (Builtin.SmallTypes.nextOrEnd (.ref it)) Q E s := by
  have last : ∀ h' e, Heap.ExtBut it s.heap h' → (∃ o, h'.get? e = some o ∧ o.cls = .type "StopIteration") →
      wpAny (model prog w) A (do if ← isInstance (.ref e) (.type "StopIteration") then pure none else throw (.ref e)) Q E { s with heap := h' } := fun h' e x ⟨o, a, b⟩ =>
    wpAny_bind (wpAny_isInstance (s := { s with heap := h' }) (T := "StopIteration") (b := true) ⟨o, a, b⟩ isSubtype_stop (wpAny_pure (q h' x)))
  unfold Builtin.SmallTypes.nextOrEnd
  refine wpAny_bind (wpAny_attempt ?_)
  cases k
  · exact RZ.nextOf_tuple_end hh hi hl hx last
  · exact wpAny_nextOf_list_end hh hi hl hx last

theorem z_stop {α : Type} {Q : α → Shared → Prop} (hh : A.handled = none) (q : ∀ h' e, (∀ c o, s.heap.get? c = some o → h'.get? c = some o) → (∃ o, h'.get? e = some o ∧ o.cls = .type "StopIteration") → E (.ref e) { s with heap := h' }) :
    wpAny (model prog w) A (do raiseNew (← newExc (.type "StopIteration") [])) Q E s := by
  refine wpAny_bind ?_; simp only [newExc, newTuple]
  refine wpAny_bind (wpAny_newObj_type (wpAny_bind (m := firstArgMember _ _) (wpAny_of_eq (a := Value.none) (by first | rfl | (simp only [firstArgMember]; rfl)) (wpAny_newObj_type ?_ (by size_fits)))) (by size_fits))
  exact wpAny_raiseNew_none hh (q _ _ (fun c o e => Heap.get?_push_of_some _ (Heap.get?_push_of_some _ e)) ⟨_, Heap.get?_push_size _ rfl, rfl⟩)
/-- the zip object: strict -/
def ZO (h : Heap) (z TI TO : Addr) (f : Value) : Prop :=
  h.get? z = some { cls := .type "zip", dict := none, data := .fields #[f, .bool false, .bool true, .ref TI, .ref TO], slots := #[] }

theorem zs_item {k1 k2 : Bool} {z TI TO i1 i2 l1 l2 : Addr} {i : Nat} {xs ys : Array Value} {x y a b : Value} {Q : Value → Shared → Prop} (D : ZipApart z TI TO i1 i2 l1 l2)
    (hz : ZO s.heap z TI TO .none) (hI : IsPair s.heap TI (.ref i1) (.ref i2)) (hO : IsPair s.heap TO a b) (h1 : zIt k1 s.heap i1 l1 i) (h2 : zIt k2 s.heap i2 l2 i)
    (q1 : zSq k1 s.heap l1 xs) (q2 : zSq k2 s.heap l2 ys) (hx : xs[i]? = some x) (hy : ys[i]? = some y)
    (q : ∀ h', ZO h' z TI TO (rawInt s.heap.objs.size) → IsPair h' TO x y → zIt k1 h' i1 l1 (i + 1) → zIt k2 h' i2 l2 (i + 1) → IsPair h' s.heap.objs.size x y → h'.objs.size = s.heap.objs.size + 1 →
      (∀ c o, c ≠ z → c ≠ TO → c ≠ i1 → c ≠ i2 → s.heap.get? c = some o → h'.get? c = some o) → Q (.ref s.heap.objs.size) { s with heap := h' }) :
    wpAny (model prog w) A (Builtin.«zip.__next__» ⟨[.ref z], []⟩) (fun fin s' => ∃ v, fin = .done (.ret v) ∧ Q v s') E s := by
  show wpAny _ _ (field (.ref z) 2 >>= _) _ _ _; refine wpAny_bind (wpAny_field hz rfl (x := .bool true) rfl ?_)
  show wpAny _ _ (field (.ref z) 3 >>= _) _ _ _; refine wpAny_bind (wpAny_field hz rfl (x := .ref TI) rfl (wpAny_bind (wpAny_seqItems hI rfl ?_)))
  show wpAny _ _ (Builtin.SmallTypes.ownedTupleIsFree (.ref z) >>= _) _ _ _
  refine wpAny_bind ?_; unfold Builtin.SmallTypes.ownedTupleIsFree
  refine wpAny_bind (wpAny_field hz rfl (x := .none) rfl (wpAny_pure ?_)); simp only [if_true]
  refine wpAny_bind (wpAny_rule (wpAny_bind (wpAny_field hz rfl (x := .ref TO) rfl (wpAny_bind (wpAny_setField_rec hz (by simp) fun g1 z1 s1 => ?_)))))
  replace z1 : ZO g1 z TI TO .ellipsis := z1
  refine wpAny_bind ?_; simp only [List.zipIdx_cons, List.zipIdx_nil, List.forIn_cons, List.forIn_nil]
  refine wpAny_bind (wpAny_bind (wpAny_onRaise ?_)); show wpAny _ _ (Builtin.SmallTypes.nextOrEnd (.ref i1)) _ _ _
  refine z_item (h1.to fun o e => s1.extBut _ _ D.i1z e) (q1.to fun o e => s1.extBut _ _ D.l1z e) hx fun g2 j1 s2 => ?_
  have o2 : IsPair g2 TO a b := s2.extBut _ _ D.TOi1 (s1.extBut _ _ D.TOz hO)
  refine wpAny_bind (wpAny_seqItems o2 rfl (wpAny_bind (wpAny_updateSeq_pair o2 fun g3 o3 s3 => ?_)))
  replace o3 : IsPair g3 TO x b := o3
  refine wpAny_bind (wpAny_letGo (wpAny_pure ?_))
  refine wpAny_bind (wpAny_bind (wpAny_onRaise ?_)); show wpAny _ _ (Builtin.SmallTypes.nextOrEnd (.ref i2)) _ _ _
  have to3 : ∀ c o, c ≠ z → c ≠ i1 → c ≠ TO → s.heap.get? c = some o → g3.get? c = some o := fun c o a1 a2 a3 e => s3.extBut _ _ a3 (s2.extBut _ _ a2 (s1.extBut _ _ a1 e))
  refine z_item (h2.to fun o e => to3 _ _ D.i2z D.i12.symm D.TOi2.symm e) (q2.to fun o e => to3 _ _ D.l2z D.l2i1 D.l2TO e) hy fun g4 j2 s4 => ?_
  have o4 : IsPair g4 TO x b := s4.extBut _ _ D.TOi2 o3
  refine wpAny_bind (wpAny_seqItems o4 rfl (wpAny_bind (wpAny_updateSeq_pair o4 fun g5 o5 s5 => ?_)))
  replace o5 : IsPair g5 TO x y := o5
  refine wpAny_bind (wpAny_letGo (wpAny_pure (wpAny_pure ?_)))
  refine wpAny_bind (wpAny_seqItems o5 rfl (wpAny_bind (wpAny_newTuple ?_)))
  have sz : g5.objs.size = s.heap.objs.size := by rw [s5.1, s4.1, s3.1, s2.1, s1.1]
  have z5 : ZO g5 z TI TO .ellipsis := s5.extBut _ _ D.TOz.symm (s4.extBut _ _ D.i2z.symm (s3.extBut _ _ D.TOz.symm (s2.extBut _ _ D.i1z.symm z1)))
  have to5 : ∀ c o, c ≠ z → c ≠ TO → c ≠ i1 → c ≠ i2 → s.heap.get? c = some o → g5.get? c = some o := fun c o a1 a2 a3 a4 e => s5.extBut _ _ a2 (s4.extBut _ _ a4 (to3 c o a1 a3 a2 e))
  have m1 : zIt k1 g5 i1 l1 (i + 1) := j1.to fun o e => s5.extBut _ _ D.TOi1.symm (s4.extBut _ _ D.i12 (s3.extBut _ _ D.TOi1.symm e))
  have m2 : zIt k2 g5 i2 l2 (i + 1) := j2.to fun o e => s5.extBut _ _ D.TOi2.symm e
  have zl : z < g5.objs.size := Heap.lt_size z5
  show wpAny _ _ (Builtin.SmallTypes.ownedTupleHandOut (.ref z) (.ref g5.objs.size) >>= _) _ _ _
  refine wpAny_bind ?_; unfold Builtin.SmallTypes.ownedTupleHandOut
  have z6 : ZO (g5.push { cls := .type "tuple", data := .seq #[x, y] }) z TI TO .ellipsis := Heap.get?_push_of_some _ z5
  refine wpAny_bind (wpAny_setField_rec z6 (by simp) fun g7 z7 s7 => ?_)
  replace z7 : ZO g7 z TI TO (rawInt g5.objs.size) := z7
  refine wpAny_setField_rec z7 (by simp) fun g8 z8 s8 => ?_
  replace z8 : ZO g8 z TI TO (rawInt g5.objs.size) := z8
  have up : ∀ c o, c ≠ z → g5.get? c = some o → g8.get? c = some o := fun c o a1 e => s8.extBut _ _ a1 (s7.extBut _ _ a1 (Heap.get?_push_of_some _ e))
  have t8 : IsPair g8 g5.objs.size x y := s8.extBut _ _ (Nat.ne_of_gt zl) (s7.extBut _ _ (Nat.ne_of_gt zl) (Heap.get?_push_size _ rfl))
  have w8 : g8.objs.size = g5.objs.size + 1 := by rw [s8.1, s7.1, Heap.size_push]
  rw [sz] at z8 t8 w8
  refine wpAny_pure ⟨_, rfl, ?_⟩; show Q (.ref g5.objs.size) _; rw [sz]
  exact q g8 z8 (up _ _ D.TOz o5) (m1.to fun o e => up _ o D.i1z e) (m2.to fun o e => up _ o D.i2z e) t8 w8 fun c o a1 a2 a3 a4 e => up c o a1 (to5 c o a1 a2 a3 a4 e)

theorem zs_end {k1 k2 : Bool} {z TI TO i1 i2 l1 l2 : Addr} {i : Nat} {xs ys : Array Value} {a b : Value} {Q : Fin → Shared → Prop} (hh : A.handled = none) (D : ZipApart z TI TO i1 i2 l1 l2)
    (hz : ZO s.heap z TI TO .none) (hI : IsPair s.heap TI (.ref i1) (.ref i2)) (hO : IsPair s.heap TO a b) (h1 : zIt k1 s.heap i1 l1 i) (h2 : zIt k2 s.heap i2 l2 i)
    (q1 : zSq k1 s.heap l1 xs) (q2 : zSq k2 s.heap l2 ys) (hx : xs[i]? = none) (hy : ys[i]? = none)
    (q : ∀ h' e, (∀ c o, c ≠ z → c ≠ TO → c ≠ i1 → c ≠ i2 → s.heap.get? c = some o → h'.get? c = some o) → (∃ o, h'.get? e = some o ∧ o.cls = .type "StopIteration") → E (.ref e) { s with heap := h' }) :
    wpAny (model prog w) A (Builtin.«zip.__next__» ⟨[.ref z], []⟩) Q E s := by
  show wpAny _ _ (field (.ref z) 2 >>= _) _ _ _; refine wpAny_bind (wpAny_field hz rfl (x := .bool true) rfl ?_)
  show wpAny _ _ (field (.ref z) 3 >>= _) _ _ _; refine wpAny_bind (wpAny_field hz rfl (x := .ref TI) rfl (wpAny_bind (wpAny_seqItems hI rfl ?_)))
  show wpAny _ _ (Builtin.SmallTypes.ownedTupleIsFree (.ref z) >>= _) _ _ _
  refine wpAny_bind ?_; unfold Builtin.SmallTypes.ownedTupleIsFree
  refine wpAny_bind (wpAny_field hz rfl (x := .none) rfl (wpAny_pure ?_)); simp only [if_true]
  refine wpAny_bind (wpAny_rule (wpAny_bind (wpAny_field hz rfl (x := .ref TO) rfl (wpAny_bind (wpAny_setField_rec hz (by simp) fun g1 z1 s1 => ?_)))))
  replace z1 : ZO g1 z TI TO .ellipsis := z1
  refine wpAny_bind ?_; simp only [List.zipIdx_cons, List.zipIdx_nil, List.forIn_cons, List.forIn_nil]
  refine wpAny_bind (wpAny_bind (wpAny_onRaise ?_)); show wpAny _ _ (Builtin.SmallTypes.nextOrEnd (.ref i1)) _ _ _
  refine z_end hh (h1.to fun o e => s1.extBut _ _ D.i1z e) (q1.to fun o e => s1.extBut _ _ D.l1z e) hx fun g2 s2 => ?_
  have z2 : ZO g2 z TI TO .ellipsis := s2 _ _ D.i1z.symm z1
  refine wpAny_bind (wpAny_setField_rec z2 (by simp) fun g3 z3 s3 => ?_)
  have to3 : ∀ c o, c ≠ z → c ≠ i1 → s.heap.get? c = some o → g3.get? c = some o := fun c o a1 a2 e => s3.extBut _ _ a1 (s2 _ _ a2 (s1.extBut _ _ a1 e))
  refine wpAny_bind ?_
  refine wpAny_bind ?_
  simp only [List.drop_succ_cons, List.drop_zero, List.zipIdx_cons, List.zipIdx_nil, List.forIn_cons, List.forIn_nil]
  refine wpAny_bind (wpAny_bind (z_end hh (h2.to fun o e => to3 _ _ D.i2z D.i12.symm e) (q2.to fun o e => to3 _ _ D.l2z D.l2i1 e) hy fun g4 s4 => ?_))
  rw [if_neg (by decide)]
  refine wpAny_pure (wpAny_pure (wpAny_bind (wpAny_rule ?_)))
  unfold Builtin.SmallTypes.stopIteration
  refine z_stop hh fun h' e k1 k2 => q h' e (fun c o a1 a2 a3 a4 x => k1 c o (s4 _ _ a4 (to3 c o a1 a3 x))) k2
theorem zs_next_item {k1 k2 : Bool} {z TI TO i1 i2 l1 l2 : Addr} {i : Nat} {xs ys : Array Value} {x y a b : Value} {Q : Option Value → Shared → Prop} (D : ZipApart z TI TO i1 i2 l1 l2)
    (hz : ZO s.heap z TI TO .none) (hI : IsPair s.heap TI (.ref i1) (.ref i2)) (hO : IsPair s.heap TO a b) (h1 : zIt k1 s.heap i1 l1 i) (h2 : zIt k2 s.heap i2 l2 i)
    (q1 : zSq k1 s.heap l1 xs) (q2 : zSq k2 s.heap l2 ys) (hx : xs[i]? = some x) (hy : ys[i]? = some y)
    (q : ∀ h', ZO h' z TI TO (rawInt s.heap.objs.size) → IsPair h' TO x y → zIt k1 h' i1 l1 (i + 1) → zIt k2 h' i2 l2 (i + 1) → IsPair h' s.heap.objs.size x y → h'.objs.size = s.heap.objs.size + 1 →
      (∀ c o, c ≠ z → c ≠ TO → c ≠ i1 → c ≠ i2 → s.heap.get? c = some o → h'.get? c = some o) → Q (some (.ref s.heap.objs.size)) { s with heap := h' }) :
    wpAny (model prog w) A (pyNext (.ref z)) Q E s := by
  have ty : s.TypeIs (.ref z) "zip" := ⟨_, hz, rfl⟩
  unfold pyNext
  exact wpAny_bind (wpAny_attempt (wpAny_callSpecial?_slot (name := Str.ofString "__next__") ty F.slot_zip_next (wpAny_call_entry F.slot_zip_next ty F.entry_zip_next
    (zs_item D hz hI hO h1 h2 q1 q2 hx hy fun h' a1 a2 a3 a4 a5 a6 a7 => wpAny_pure (q h' a1 a2 a3 a4 a5 a6 a7)) (F.args_zip_next_1 _))))
theorem zs_next_end {k1 k2 : Bool} {z TI TO i1 i2 l1 l2 : Addr} {i : Nat} {xs ys : Array Value} {a b : Value} {Q : Option Value → Shared → Prop} (hh : A.handled = none) (D : ZipApart z TI TO i1 i2 l1 l2)
    (hz : ZO s.heap z TI TO .none) (hI : IsPair s.heap TI (.ref i1) (.ref i2)) (hO : IsPair s.heap TO a b) (h1 : zIt k1 s.heap i1 l1 i) (h2 : zIt k2 s.heap i2 l2 i)
    (q1 : zSq k1 s.heap l1 xs) (q2 : zSq k2 s.heap l2 ys) (hx : xs[i]? = none) (hy : ys[i]? = none)
    (q : ∀ h', (∀ c o, c ≠ z → c ≠ TO → c ≠ i1 → c ≠ i2 → s.heap.get? c = some o → h'.get? c = some o) → Q none { s with heap := h' }) : wpAny (model prog w) A (pyNext (.ref z)) Q E s := by
  have ty : s.TypeIs (.ref z) "zip" := ⟨_, hz, rfl⟩
  unfold pyNext
  refine wpAny_bind (wpAny_attempt (wpAny_callSpecial?_slot (name := Str.ofString "__next__") ty F.slot_zip_next (wpAny_call_entry F.slot_zip_next ty F.entry_zip_next
    (zs_end hh D hz hI hO h1 h2 q1 q2 hx hy fun h' e hk he => ?_) (F.args_zip_next_1 _))))
  obtain ⟨o, a1, a2⟩ := he
  exact wpAny_bind (wpAny_isInstance (s := { s with heap := h' }) (T := "StopIteration") (b := true) ⟨o, a1, a2⟩ isSubtype_stop (wpAny_pure (q _ hk)))
theorem zs_go {elts : List Expr} {n : Nat} {pos : Pos} {z TI TO T : Addr} {Q : Unit → Shared → Prop} (hz : ZO s.heap z TI TO (rawInt T)) (q : ∀ h', ZO h' z TI TO .none → Heap.SameBut z s.heap h' → Q () { s with heap := h' }) :
    wpAny (model prog w) A (letOwnedTupleGo (.Tuple elts n pos) (.ref z) (.ref T)) Q E s := by
  unfold letOwnedTupleGo
  refine wpAny_bind (wpAny_load hz ?_)
  refine (show wpAny _ _ (if (_ : Bool) = true then _ else _) Q E s from ?_)
  rw [if_pos (by simp)]
  exact wpAny_bind (wpAny_rule (wpAny_setField_rec (s := s) hz (by simp) fun h' z' s' => q h' z' s'))
theorem zs_self {z TI TO : Addr} {f : Value} {Q : Value → Shared → Prop} (hz : ZO s.heap z TI TO f) (q : Q (.ref z) s) : wpAny (model prog w) A (pyIter (.ref z)) Q E s := by
  have ty : s.TypeIs (.ref z) "zip" := ⟨_, hz, rfl⟩
  refine wpAny_pyIter_slot ty F.slot_zip_iter (wpAny_call_entry F.slot_zip_iter ty F.entry_zip_iter ?_ (F.args_zip_iter_1 _))
  show wpAny _ _ (ret (.ref z)) _ _ s
  exact wpAny_pure ⟨_, rfl, "zip", _, ty, F.slot_zip_next.lookup, q⟩

def zKw : List (Str × Value) := [("strict", .bool true)]
/-- a new zip object in the heap behind h -/
structure ZNew (k1 k2 : Bool) (l1 l2 : Addr) (h h' : Heap) : Prop where
  z : ZO h' (h.objs.size + 4) (h.objs.size + 2) (h.objs.size + 3) .none
  i : IsPair h' (h.objs.size + 2) (.ref h.objs.size) (.ref (h.objs.size + 1))
  o : IsPair h' (h.objs.size + 3) .none .none
  one : zIt k1 h' h.objs.size l1 0
  two : zIt k2 h' (h.objs.size + 1) l2 0
  ext : ∀ c o, h.get? c = some o → h'.get? c = some o
theorem zs_made {k1 k2 : Bool} {l1 l2 : Addr} {h : Heap} {u v : Obj} (a : zIt k1 (h.push u) h.objs.size l1 0) (b : zIt k2 ((h.push u).push v) (h.push u).objs.size l2 0) :
    ZNew k1 k2 l1 l2 h (((((h.push u).push v).push { cls := .type "tuple", data := .seq #[.ref h.objs.size, .ref (h.push u).objs.size] }).push { cls := .type "tuple", data := .seq #[.none, .none] }).push
      { cls := .type "zip", data := .fields #[.none, .bool false, .bool true, .ref ((h.push u).push v).objs.size, .ref (((h.push u).push v).push { cls := .type "tuple", data := .seq #[.ref h.objs.size, .ref (h.push u).objs.size] }).objs.size] }) := by
  have up : ∀ {g : Heap} {x : Obj} {c : Addr} {o : Obj}, g.get? c = some o → (g.push x).get? c = some o := Heap.get?_push_of_some _
  refine ⟨?_, ?_, ?_, (a.to fun o e => up e).to fun o e => up (up (up e)), ?_, fun c o e => up (up (up (up (up e))))⟩
  · have e := Heap.get?_push_size (((((h.push u).push v).push { cls := .type "tuple", data := .seq #[.ref h.objs.size, .ref (h.push u).objs.size] }).push { cls := .type "tuple", data := .seq #[.none, .none] })) (o := { cls := .type "zip", data := .fields #[.none, .bool false, .bool true, .ref ((h.push u).push v).objs.size, .ref (((h.push u).push v).push { cls := .type "tuple", data := .seq #[.ref h.objs.size, .ref (h.push u).objs.size] }).objs.size] }) rfl
    simp only [Heap.size_push] at e ⊢
    exact e
  · have e := Heap.get?_push_size ((h.push u).push v) (o := { cls := .type "tuple", data := .seq #[.ref h.objs.size, .ref (h.push u).objs.size] }) rfl
    simp only [Heap.size_push] at e ⊢
    exact up (up e)
  · have e := Heap.get?_push_size (((h.push u).push v).push { cls := .type "tuple", data := .seq #[.ref h.objs.size, .ref (h.push u).objs.size] }) (o := { cls := .type "tuple", data := .seq #[.none, .none] }) rfl
    simp only [Heap.size_push] at e ⊢
    exact up e
  · rw [← show (h.push u).objs.size = h.objs.size + 1 from Heap.size_push ..]
    exact b.to fun o e => up (up (up e))
theorem zs_fin {k1 k2 : Bool} {l1 l2 : Addr} {s : Shared} {u v : Obj} {R : Except Value Flow → Shared → Prop} (q : ∀ h', ZNew k1 k2 l1 l2 s.heap h' → R (.ok (.ret (.ref (s.heap.objs.size + 4)))) { s with heap := h' })
    (a : zIt k1 (s.heap.push u) s.heap.objs.size l1 0) (b : zIt k2 ((s.heap.push u).push v) (s.heap.push u).objs.size l2 0) :
    R (.ok (.ret (.ref ((((s.heap.push u).push v).push { cls := .type "tuple", data := .seq #[.ref s.heap.objs.size, .ref (s.heap.push u).objs.size] }).push { cls := .type "tuple", data := .seq #[.none, .none] }).objs.size)))
      { s with heap := (((((s.heap.push u).push v).push { cls := .type "tuple", data := .seq #[.ref s.heap.objs.size, .ref (s.heap.push u).objs.size] }).push { cls := .type "tuple", data := .seq #[.none, .none] }).push
      { cls := .type "zip", data := .fields #[.none, .bool false, .bool true, .ref ((s.heap.push u).push v).objs.size, .ref (((s.heap.push u).push v).push { cls := .type "tuple", data := .seq #[.ref s.heap.objs.size, .ref (s.heap.push u).objs.size] }).objs.size] }) } := by
  have e := q _ (zs_made a b)
  have z : ((((s.heap.push u).push v).push { cls := .type "tuple", data := .seq #[.ref s.heap.objs.size, .ref (s.heap.push u).objs.size] }).push { cls := .type "tuple", data := .seq #[.none, .none] }).objs.size = s.heap.objs.size + 4 := by
    simp only [Heap.size_push]
  rw [z]
  exact e
def zSp (k1 k2 : Bool) (l1 l2 : Addr) (xs ys : Array Value) : Spec := fun _ R s => zSq k1 s.heap l1 xs ∧ zSq k2 s.heap l2 ys ∧
  ∀ h', ZNew k1 k2 l1 l2 s.heap h' → R (.ok (.ret (.ref (s.heap.objs.size + 4)))) { s with heap := h' }
def zIn (z : Value) : Spec := fun _ R s => s.TypeIs z "zip" ∧ R (.ok (.ret .none)) s
theorem zs_new {k1 k2 : Bool} {l1 l2 : Addr} {xs ys : Array Value} : Meets (Builtin.«zip.__new__» ⟨[.type "zip", .ref l1, .ref l2], zKw⟩) (zSp k1 k2 l1 l2 xs ys) :=
  .of_wp fun prog w A R s h => by
    obtain ⟨hp, g, d, tk, os⟩ := s
    obtain ⟨q1, q2, q⟩ := h
    have sub := sub_zip
    unfold zKw
    have w1 : ∀ {u : Obj}, zSq k2 (hp.push u) l2 ys := fun {u} => q2.to fun o e => Heap.get?_push_of_some _ e
    cases k1 <;> cases k2
    · have p1 : Heap.IsTuple (Shared.heap ⟨hp, g, d, tk, os⟩) l1 xs := q1
      have p2 : Heap.IsTuple (Shared.heap ⟨hp.push { cls := .type "tuple_iterator", data := .fields #[.ref l1, .int 0 0] }, g, d, tk, os⟩) l2 ys := w1
      wp_walk using wpAny_pyIter_tuple p1, wpAny_pyIter_tuple p2
      exact ⟨_, rfl, zs_fin q ⟨_, Heap.get?_push_size _ rfl, rfl, rfl⟩ ⟨_, Heap.get?_push_size _ rfl, rfl, rfl⟩⟩
    · have p1 : Heap.IsTuple (Shared.heap ⟨hp, g, d, tk, os⟩) l1 xs := q1
      have p2 : Heap.IsList (Shared.heap ⟨hp.push { cls := .type "tuple_iterator", data := .fields #[.ref l1, .int 0 0] }, g, d, tk, os⟩) l2 ys := w1
      wp_walk using wpAny_pyIter_tuple p1, wpAny_pyIter_list p2
      exact ⟨_, rfl, zs_fin q ⟨_, Heap.get?_push_size _ rfl, rfl, rfl⟩ ⟨_, Heap.get?_push_size _ rfl, rfl, rfl⟩⟩
    · have p1 : Heap.IsList (Shared.heap ⟨hp, g, d, tk, os⟩) l1 xs := q1
      have p2 : Heap.IsTuple (Shared.heap ⟨hp.push { cls := .type "list_iterator", data := .fields #[.ref l1, .int 0 0] }, g, d, tk, os⟩) l2 ys := w1
      wp_walk using wpAny_pyIter_list p1, wpAny_pyIter_tuple p2
      exact ⟨_, rfl, zs_fin q ⟨_, Heap.get?_push_size _ rfl, rfl, rfl⟩ ⟨_, Heap.get?_push_size _ rfl, rfl, rfl⟩⟩
    · have p1 : Heap.IsList (Shared.heap ⟨hp, g, d, tk, os⟩) l1 xs := q1
      have p2 : Heap.IsList (Shared.heap ⟨hp.push { cls := .type "list_iterator", data := .fields #[.ref l1, .int 0 0] }, g, d, tk, os⟩) l2 ys := w1
      wp_walk using wpAny_pyIter_list p1, wpAny_pyIter_list p2
      exact ⟨_, rfl, zs_fin q ⟨_, Heap.get?_push_size _ rfl, rfl, rfl⟩ ⟨_, Heap.get?_push_size _ rfl, rfl, rfl⟩⟩
theorem zs_init {z : Value} {l1 l2 : Addr} : Meets (Builtin.«object.__init__» ⟨[z, .ref l1, .ref l2], zKw⟩) (zIn z) := by
  refine Meets.of_wp fun prog w A R s h => ?_
  obtain ⟨ty, q⟩ := h
  have hl := F.called_zip.init.lookup; have hm := F.called_zip.made
  unfold zKw
  repeat (any_goals (first | assumption | wp_step))
  exact ⟨_, rfl, q⟩
theorem zs_call {k1 k2 : Bool} {l1 l2 : Addr} {xs ys : Array Value} {Q : Value → Shared → Prop} (q1 : zSq k1 s.heap l1 xs) (q2 : zSq k2 s.heap l2 ys)
    (q : ∀ h', ZNew k1 k2 l1 l2 s.heap h' → Q (.ref (s.heap.objs.size + 4)) { s with heap := h' }) : wpAny (model prog w) A (call (.type "zip") [.ref l1, .ref l2] zKw) Q E s := by
  have ct : checkTypeCall "zip" ⟨[.ref l1, .ref l2], zKw⟩ = pure () := by kernel_rfl
  have cn : checkBuiltinCall "zip.__new__" ⟨[.type "zip", .ref l1, .ref l2], zKw⟩ = pure () := by kernel_rfl
  have ft := F.called_zip
  obtain ⟨c, tl, mro⟩ := ft.mro
  have made := ft.made; have sub := ft.sub
  refine wpAny_call (codeAny_of_tree (?_ : wpAny _ _ (callAny (.type "zip") _) _ _ _))
  refine wpAny_pure ⟨Code.quiet_builtin _ (by decide +kernel), codeAny_builtin F.entry_type_call (?_)⟩
  rw [Around.under_plain (weight_type_call_type _ _ _) (units_type_call_type _ _ _)]
  have n1 := ft.notType; have n2 := ft.canCreate
  repeat (any_goals (first | assumption | wp_step))
  have S1 : zSp k1 k2 l1 l2 xs ys A.in1 (fun r s1 => ∃ h', ZNew k1 k2 l1 l2 s.heap h' ∧ r = .ok (.ret (.ref (s.heap.objs.size + 4))) ∧ s1 = { s with heap := h' }) s := ⟨q1, q2, fun h' N => ⟨h', N, rfl, rfl⟩⟩
  refine codeAny_mono (codeAny_call_builtin ft.plain F.entry_zip_new (wpAny_of_eq cn (zs_new prog w A.in1 _ s S1))) fun r s1 hr => ?_
  obtain ⟨h', N, rfl, rfl⟩ := hr
  have ty : Shared.TypeIs { s with heap := h' } (.ref (s.heap.objs.size + 4)) "zip" := ⟨_, N.z, rfl⟩
  have ok : argsOk "object.__init__" ⟨[.ref (s.heap.objs.size + 4), .ref l1, .ref l2], zKw⟩ := by
    unfold argsOk; rw [signature?_of (id := "object.__init__") (n := ['_', '_', 't', 'i', 'n', 'i', '_', '_']) (o := ['t', 'c', 'e', 'j', 'b', 'o']) (by kernel_rfl) F.owner_object]; kernel_rfl
  have il := ft.init.lookup; have ib := ft.init.bind (.ref (s.heap.objs.size + 4))
  repeat (any_goals (first | assumption | wp_step))
  have S2 : zIn (.ref (s.heap.objs.size + 4)) A.in1 (fun r s2 => r = .ok (.ret .none) ∧ s2 = { s with heap := h' }) { s with heap := h' } := ⟨ty, rfl, rfl⟩
  refine codeAny_mono (codeAny_call_builtin ft.init.plain F.entry_object_init (ft.init.check _ _ _ _ _ _ _ _ ty ok (zs_init prog w A.in1 _ _ S2))) fun r2 s2 hr2 => ?_
  obtain ⟨rfl, rfl⟩ := hr2
  repeat (any_goals (first | assumption | wp_step))
  exact q h' N
end
open PySem.Spec PyProof.Rows L2
def SqB (k : Bool) (K : PySem.W.Frag) (H : Hp) (a : Addr) (xs : List V) : Prop := match k with
  | true => SqL K H a xs
  | false => SqT K H a xs
section
variable {X : Cx} {pins : List (Addr × Obj)} {s : Shared} {σ : L2.St} {H : Hp}
theorem sqb_get {k : Bool} {a : Addr} {xs : List V} (I : Inv X pins σ H s) (q : SqB k X.K H a xs) : ∃ its : List Value, Vals xs its ∧ zSq k s.heap a its.toArray ∧ a < s.heap.objs.size := by
  cases k
  · obtain ⟨its, rv, p, _⟩ := I.tuple q
    exact ⟨its, rv, p, let ⟨_, e, _⟩ := p; Heap.lt_size e⟩
  · obtain ⟨its, rv, p, _⟩ := I.list q
    exact ⟨its, rv, p.isList, p.lt⟩
theorem sqb_inj {k : Bool} {a : Addr} {xs ys : List V} (I : Inv X pins σ H s) (q : SqB k X.K H a xs) (r : SqB k X.K H a ys) : xs = ys := by
  cases k
  · exact I.tuple_inj q r
  · exact I.list_inj q r
end
/-- zip strict of what stands at a and b, each item in a new pair -/
def Itzs (K : PySem.W.Frag) (k1 k2 : Bool) (a b : Addr) : It where
  go := fun i H => ∃ (xs ys : List V) (x y : V), SqB k1 K H a xs ∧ SqB k2 K H b ys ∧ xs[i]? = some x ∧ ys[i]? = some y
  yld := fun i H v H' => ∃ T x y, v = .ref T ∧ H T = none ∧ H' = upd H T (.tup [x, y]) ∧ (∀ xs, SqB k1 K H a xs → xs[i]? = some x) ∧ ∀ ys, SqB k2 K H b ys → ys[i]? = some y
  stop := fun i H => ∃ xs ys : List V, SqB k1 K H a xs ∧ SqB k2 K H b ys ∧ xs.length ≤ i ∧ ys.length ≤ i
def ZS (k1 k2 : Bool) (z TI TO i1 i2 a b : Addr) (i : Nat) (h : Heap) : Prop := ZO h z TI TO .none ∧ IsPair h TI (.ref i1) (.ref i2) ∧ (∃ x y, IsPair h TO x y) ∧ zIt k1 h i1 a i ∧ zIt k2 h i2 b i
theorem turn_zs {P : Program} {w : World} {K : PySem.W.Frag} {elts : List Expr} {n : Nat} {tpos : Pos} {k1 k2 : Bool} {a b z TI TO i1 i2 : Addr} (D : ZipApart z TI TO i1 i2 a b) :
    Turn P w K (.Tuple elts n tpos) (Itzs K k1 k2 a b) [z, TI, TO, i1, i2] z (ZS k1 k2 z TI TO i1 i2 a b) where
  mem := by simp
  obj := fun i h st c hc => by
    obtain ⟨hz, hI, ⟨x, y, hO⟩, h1, h2⟩ := st
    simp only [List.mem_cons, List.not_mem_nil, or_false] at hc
    rcases hc with q | q | q | q | q <;> subst q
    · exact ⟨_, hz, nofun⟩
    · exact ⟨_, hI, nofun⟩
    · exact ⟨_, hO, nofun⟩
    · exact h1.field
    · exact h2.field
  keep := fun i h h' st k => by
    obtain ⟨hz, hI, ⟨x, y, hO⟩, h1, h2⟩ := st
    exact ⟨k z (by simp) _ hz, k TI (by simp) _ hI, ⟨x, y, k TO (by simp) _ hO⟩, h1.to fun o q => k i1 (by simp) o q, h2.to fun o q => k i2 (by simp) o q⟩
  item := by
    intro X hP hw hK hc i pins s σ H E I hf st hg
    subst hP hw hK
    have lt5 : ∀ c ∈ [z, TI, TO, i1, i2], c < s.heap.objs.size := fun c hc => by
      obtain ⟨hz, hI, ⟨x, y, hO⟩, h1, h2⟩ := st
      simp only [List.mem_cons, List.not_mem_nil, or_false] at hc
      rcases hc with q | q | q | q | q <;> subst q
      · exact Heap.lt_size hz
      · exact Heap.lt_size hI
      · exact Heap.lt_size hO
      · exact h1.lt
      · exact h2.lt
    obtain ⟨hz, hI, ⟨x0, y0, hO⟩, h1, h2⟩ := st
    obtain ⟨xs, ys, x, y, q1, q2, hx, hy⟩ := hg
    obtain ⟨us, r1, p1, _⟩ := sqb_get I q1
    obtain ⟨vs, r2, p2, _⟩ := sqb_get I q2
    obtain ⟨u, hu, ru⟩ := r1.get hx
    obtain ⟨v, hv, rv⟩ := r2.get hy
    have zl : z < s.heap.objs.size := lt5 z (by simp)
    refine zs_next_item D hz hI hO h1 h2 p1 p2 (x := u) (y := v) (by simpa using hu) (by simpa using hv) fun h' z' O' j1 j2 hT sz kp => ?_
    refine ⟨_, rfl, zs_go (s := { s with heap := h' }) z' fun h'' z'' sb => ?_⟩
    have hT2 : h''.get? s.heap.objs.size = some { cls := .type "tuple", data := .seq #[u, v] } := (sb.2 _ (Nat.ne_of_gt zl)).trans hT
    have new : ObjOk X.prog X.w (upd H s.heap.objs.size (.tup [x, y])) h'' s.heap.objs.size (.tup [x, y]) := ⟨by show 2 ≤ sizeLine; decide, [u, v], .cons ru (.cons rv .nil), ⟨_, hT2, rfl, _, rfl⟩⟩
    have I1 : Inv X pins σ (upd H s.heap.objs.size (.tup [x, y])) { s with heap := h'' } := by
      refine I.turnedNew (t' := s.toks) (ch := [z, TI, TO, i1, i2]) (fun c o hb q => ?_) hf (Nat.le_refl _) new
      simp only [List.mem_cons, List.not_mem_nil, or_false, not_or] at hb
      exact (sb.2 c hb.1).trans (kp c o hb.1 hb.2.2.1 hb.2.2.2.1 hb.2.2.2.2 q)
    refine ⟨.ref s.heap.objs.size, _, I1, rfl, ⟨_, x, y, rfl, I.hok.fresh (Nat.le_refl _), rfl, fun l hl => by rw [sqb_inj I hl q1]; exact hx, fun l hl => by rw [sqb_inj I hl q2]; exact hy⟩, ⟨z'', ?_, ⟨u, v, ?_⟩, ?_, ?_⟩, fun c hcm => ?_⟩
    · exact (sb.2 _ D.TIz).trans (kp _ _ D.TIz D.TITO D.TIi1 D.TIi2 hI)
    · exact (sb.2 _ D.TOz).trans O'
    · exact j1.to fun o q => (sb.2 _ D.i1z).trans q
    · exact j2.to fun o q => (sb.2 _ D.i2z).trans q
    · rw [upd_ne (Nat.ne_of_lt (lt5 c hcm))]; exact (hf c hcm).1
  done := by
    intro X hP hw hK hc i pins s σ H E I hf st hg
    subst hP hw hK
    obtain ⟨hz, hI, ⟨x0, y0, hO⟩, h1, h2⟩ := st
    obtain ⟨xs, ys, q1, q2, e1, e2⟩ := hg
    obtain ⟨us, r1, p1, _⟩ := sqb_get I q1
    obtain ⟨vs, r2, p2, _⟩ := sqb_get I q2
    have l1 := r1.length; have l2 := r2.length
    refine zs_next_end (I.ok.hd hc) D hz hI hO h1 h2 p1 p2 (by simp; omega) (by simp; omega) fun h' kp => ⟨rfl, I.turnedL (t' := s.toks) (ch := [z, TI, TO, i1, i2]) (fun c o hb q => ?_) hf⟩
    simp only [List.mem_cons, List.not_mem_nil, or_false, not_or] at hb
    exact kp c o hb.1 hb.2.2.1 hb.2.2.2.1 hb.2.2.2.2 q
  self := fun A i s Q E st h => zs_self st.1 h
/-- zip(e, e2, strict=True), walked with a tuple for target -/
def iZs (K : PySem.W.Frag) (ta : TA) : TI := fun σ H R => ta σ H fun vs H1 => ∃ k1 k2 a b xs ys, vs = [.ref a, .ref b] ∧ SqB k1 K H1 a xs ∧ SqB k2 K H1 b ys ∧ R (Itzs K k1 k2 a b) H1
theorem pi_zs {X : Cx} {e e2 : Expr} {ta : TA} {p pos tpos kpos cpos : Pos} {elts : List Expr} {n j : Nat} (hg : Gl X "zip") (hm : X.mg "zip" = none) (ha : PA X [e, e2] ta)
    (h1 : plainA e = true) (h2 : plainA e2 = true) : PI X (.Tuple elts n tpos) (.Call (.Name "zip" p) [e, e2] [⟨some "strict", .Constant (.bool true) j cpos, kpos⟩] pos) (iZs X.K ta) := by
  refine ⟨fun pins s σ H R I h => ?_⟩
  refine wpAny_Call_Name_kw (ld_blt I hg hm PyProof.Rows.boot_zip ?_)
  have pk : PK X [⟨some "strict", .Constant (.bool true) j cpos, kpos⟩] _ := pk_cons pe_bl pk_nil
  have st : starEach [e, e2] X.env = (false, eval e X.env) :: starEach [e2] X.env := by rw [star_cons h1]
  unfold callWith
  refine wpAny_bind (wpAny_holding ?_)
  rw [st]
  show wpAny _ _ (evalArgs _ true ((false, _) :: _) _) _ _ _
  refine PyProof.Rows.evalArgs_kwB (by rfl) ?_
  have run := ha.run pos pins s σ H (fun vs H1 => ∃ k1 k2 a b xs ys, vs = [.ref a, .ref b] ∧ SqB k1 X.K H1 a xs ∧ SqB k2 X.K H1 b ys ∧ R (Itzs X.K k1 k2 a b) H1) I h
  rw [st] at run
  refine thn run fun us s1 ⟨vs, H1, I1, r1, q1⟩ => ?_
  refine thn (pk.run pos pins s1 σ H1 (fun zs H2 => zs = [.bl true] ∧ H2 = H1) I1 ⟨rfl, rfl⟩) fun ws s2 ⟨zs, H2, I2, r2, q2⟩ => ?_
  obtain ⟨rfl, rfl⟩ := q2
  obtain ⟨k1, k2, a, b, xs, ys, rfl, q1, q2, q⟩ := q1
  cases r2 with
  | cons t tt =>
  cases tt
  cases t
  cases r1 with
  | cons t tt =>
  cases tt with
  | cons t' tt =>
  cases tt
  cases t
  cases t'
  have pl : (backTo pos (starEach [e2] X.env)).any (·.1) = false := back_plain (es := [e2]) (by simp [h2])
  refine wpAny_bind (wpAny_standAt ?_)
  have e1 : (backTo pos ((false, eval e X.env) :: starEach [e2] X.env)).any (·.1) = false := by show (false || (backTo pos (starEach [e2] X.env)).any (·.1)) = false; rw [pl]; rfl
  simp only [e1]
  refine wpAny_bind (wpAny_pure ?_)
  obtain ⟨us, v1, p1, la⟩ := sqb_get I2 q1
  obtain ⟨us2, v2, p2, lb⟩ := sqb_get I2 q2
  have I3 : ∀ {h'}, ZNew k1 k2 a b s2.heap h' → L2.Inv X pins σ H2 { s2 with heap := h' } := fun N => I2.kept (t' := s2.toks) N.ext
  refine wpAny_bind (wpAny_mono (zs_call p1 p2 (E := X.xe) (Q := fun r s4 => ∃ h', ZNew k1 k2 a b s2.heap h' ∧ r = .ref (s2.heap.objs.size + 4) ∧ s4 = { s2 with heap := h' }) fun h' N => ⟨h', N, rfl, rfl⟩) (fun r s4 hr => wpAny_bind (wpAny_holding (wpAny_point (wpAny_pure ?_)))) fun _ _ x => x)
  obtain ⟨h', N, rfl, rfl⟩ := hr
  refine zs_self N.z ⟨s2.heap.objs.size + 4, [s2.heap.objs.size + 4, s2.heap.objs.size + 2, s2.heap.objs.size + 3, s2.heap.objs.size, s2.heap.objs.size + 1], _, _, H2, rfl, I3 N, turn_zs (PySem.W.ktu_apart s2.heap.objs.size a b la lb), ⟨N.z, N.i, ⟨_, _, N.o⟩, N.one, N.two⟩, fun c hc => ?_, q⟩
  have le : s2.heap.objs.size ≤ c := by
    simp only [List.mem_cons, List.not_mem_nil, or_false] at hc
    rcases hc with z | z | z | z | z <;> subst z <;> first | exact Nat.le_refl _ | exact Nat.le_add_right _ _
  exact I2.fpOk le (I2.hok.fresh le)
section
variable {G : GI} {cb : CB} {X : Cx} {m : List Addr} {L : List LO} {s : Sl} {H : Hp} {σ : L2.St}
def kOf : LV → Bool
  | .tup _ => false
  | _ => true
theorem items_k (R : Rep G m L H) {x : LV} {xs : List LV} {v : V} (h : itemsOf L x = some xs) (r : RV G m H x v) : ∃ a vs, v = .ref a ∧ SqB (kOf x) G.K H a vs ∧ RVs G m H xs vs := by
  unfold itemsOf at h
  split at h
  · cases h
    obtain ⟨a, vs, e, s, r⟩ := r
    exact ⟨a, vs, e, s.sq, r⟩
  · rename_i y hn
    obtain ⟨a, vs, e, s, r⟩ := seqOf_ok R h r
    refine ⟨a, vs, e, ?_, r⟩
    cases x with
    | tup zs => exact absurd rfl (hn zs)
    | _ => exact s
def zipGo (f g : Option (List LV)) (j : Nat) : Option (Option LV) := match f, g with
  | some xs, some ys => match xs[j]?, ys[j]? with
    | some a, some b => some (some (.tup [a, b]))
    | none, none => some none
    | _, _ => none
  | _, _ => none
theorem zipGo_some {f g : Option (List LV)} {j : Nat} {x : LV} (h : zipGo f g j = some (some x)) : ∃ xs ys a b, f = some xs ∧ g = some ys ∧ xs[j]? = some a ∧ ys[j]? = some b ∧ x = .tup [a, b] := by
  unfold zipGo at h
  split at h
  · split at h
    · cases h
      exact ⟨_, _, _, _, rfl, rfl, by assumption, by assumption, rfl⟩
    · cases h
    · cases h
  · cases h
theorem zipGo_none {f g : Option (List LV)} {j : Nat} (h : zipGo f g j = some none) : ∃ xs ys, f = some xs ∧ g = some ys ∧ xs[j]? = none ∧ ys[j]? = none := by
  unfold zipGo at h
  split at h
  · split at h
    · cases h
    · exact ⟨_, _, rfl, rfl, by assumption, by assumption⟩
    · cases h
  · cases h
def zipG (x y : LV) (n : Nat) : Src := ⟨fun j L => zipGo (itemsOf L x) (itemsOf L y) j, n + 1⟩
theorem it_zs {x y : LV} {a b : Addr} {n : Nat} (rx : RV G m H x (.ref a)) (ry : RV G m H y (.ref b)) : ItOk G m H (Itzs G.K (kOf x) (kOf y) a b) (zipG x y n) := by
  refine ⟨fun j m1 H1 L1 e R h => ?_, fun j m1 H1 L1 x e R h => ?_, fun j m1 H1 L1 x v H' e R h y => ?_⟩
  · obtain ⟨xs, ys, e1, e2, n1, n2⟩ := zipGo_none h
    obtain ⟨a', vs, q, k1, r1⟩ := items_k R e1 (rx.at e); cases q
    obtain ⟨b', us, q, k2, r2⟩ := items_k R e2 (ry.at e); cases q
    exact ⟨vs, us, k1, k2, by rw [r1.length]; exact List.getElem?_eq_none_iff.mp n1, by rw [r2.length]; exact List.getElem?_eq_none_iff.mp n2⟩
  · obtain ⟨xs, ys, c, d, e1, e2, n1, n2, _⟩ := zipGo_some h
    obtain ⟨a', vs, q, k1, r1⟩ := items_k R e1 (rx.at e); cases q
    obtain ⟨b', us, q, k2, r2⟩ := items_k R e2 (ry.at e); cases q
    obtain ⟨v1, h1, _⟩ := r1.get n1
    obtain ⟨v2, h2, _⟩ := r2.get n2
    exact ⟨vs, us, v1, v2, k1, k2, h1, h2⟩
  · obtain ⟨xs, ys, c, d, e1, e2, n1, n2, rfl⟩ := zipGo_some h
    obtain ⟨a', vs, q, k1, r1⟩ := items_k R e1 (rx.at e); cases q
    obtain ⟨b', us, q, k2, r2⟩ := items_k R e2 (ry.at e); cases q
    obtain ⟨v1, h1, rv1⟩ := r1.get n1
    obtain ⟨v2, h2, rv2⟩ := r2.get n2
    obtain ⟨T, x', y', rfl, hp, rfl, f1, f2⟩ := y
    have g1 := f1 _ k1; rw [h1] at g1; cases g1
    have g2 := f2 _ k2; rw [h2] at g2; cases g2
    exact ⟨Ext.fresh hp, R.fresh hp, T, [v1, v2], rfl, .inl ⟨R.new hp, R.newF hp, .inl upd_same⟩, (RVs.cons rv1 (RVs.one rv2)).mono (Ext.fresh hp).le⟩
def zipS (fa fb : LE) : LSrc := fun cb s L => (argsE cb s [fa, fb] L).bind fun xs L1 => match xs with
  | [x, y] => match itemsOf L1 x, itemsOf L1 y with
    | some us, some _ => .ok (zipG x y us.length) L1
    | _, _ => .fail
  | _ => .fail
theorem si_zip {a b : Expr} {fa fb : LE} {p pos kpos cpos : Pos} {elts : List Expr} {n j : Nat} {tpos : Pos} (hK : X.K = G.K) (hg : Gl X "zip") (hm : X.mg "zip" = none) (ha : SE G cb X a fa) (hb : SE G cb X b fb) (hp : plainA a = true) (hp2 : plainA b = true) :
    SI G cb X (.Tuple elts n tpos) (.Call (.Name "zip" p) [a, b] [⟨some "strict", .Constant (.bool true) j cpos, kpos⟩] pos) (zipS fa fb) := by
  intro m L s H σ w L1 R Rp S h k
  have hpl : [a, b].all plainA = true := by simp [hp, hp2]
  have al : Al (SE G cb X) [a, b] [fa, fb] := .cons ha (.cons hb .nil)
  unfold zipS at h
  cases ea : argsE cb s [fa, fb] L with
  | fail => rw [ea] at h; cases h
  | ok xs L2 =>
    rw [ea, Res.bind_ok] at h
    refine PI.wi (pi_zs hg hm (WA.pa X [a, b]) hp hp2) (args_use al hpl Rp S ea fun m1 H1 vs e1 R1 r1 => ?_)
    split at h
    · rename_i x y
      split at h
      · rename_i us us2 i1 i2
        cases h
        obtain ⟨v, u, ev, r, r'⟩ := r1.inv2
        subst ev
        obtain ⟨a1, v1, q, k1, _⟩ := items_k R1 i1 r
        obtain ⟨a2, v2, q2, k2, _⟩ := items_k R1 i2 r'
        subst q; subst q2
        refine ⟨kOf x, kOf y, a1, a2, v1, v2, rfl, by rw [hK]; exact k1, by rw [hK]; exact k2, ?_⟩
        rw [hK]
        exact k m1 H1 _ e1 R1 ⟨it_zs r r', fun D hD => it_zs (r.gm (Gm.hide hD)) (r'.gm (Gm.hide hD))⟩
      · cases h
    · cases h
/-! enumerate(list) -/
def enuGo (f : Option (List LV)) (j : Nat) : Option (Option LV) := match f with
  | some xs => some (xs[j]?.map fun x => .tup [.int j, x])
  | none => none
def enuG (x : LV) (n : Nat) : Src := ⟨fun j L => enuGo (seqOf L x) j, n + 1⟩
theorem it_enu {x : LV} {a : Addr} {n : Nat} (rx : RV G m H x (.ref a)) : ItOk G m H (Ite G.K a) (enuG x n) := by
  have at' : ∀ {m1 H1 L1 xs}, Ext m H m1 H1 → Rep G m1 L1 H1 → seqOf L1 x = some xs → ∃ vs, SqL G.K H1 a vs ∧ RVs G m1 H1 xs vs := fun e R h => by
    obtain ⟨a', vs, q, k, r⟩ := seqOf_ok R h (rx.at e); cases q
    exact ⟨vs, k, r⟩
  refine ⟨fun j m1 H1 L1 e R h => ?_, fun j m1 H1 L1 y e R h => ?_, fun j m1 H1 L1 y v H' e R h yy => ?_⟩
  · have h : enuGo (seqOf L1 x) j = some none := h
    unfold enuGo at h
    split at h
    · rename_i xs hx
      obtain ⟨vs, k, r⟩ := at' e R hx
      exact ⟨vs, k, by rw [r.length]; exact List.getElem?_eq_none_iff.mp (Option.map_eq_none_iff.mp (Option.some.inj h))⟩
    · cases h
  · have h : enuGo (seqOf L1 x) j = some (some y) := h
    unfold enuGo at h
    split at h
    · rename_i xs hx
      obtain ⟨vs, k, r⟩ := at' e R hx
      obtain ⟨z, hz, _⟩ := Option.map_eq_some_iff.mp (Option.some.inj h)
      obtain ⟨v, h1, _⟩ := r.get hz
      exact ⟨vs, v, k, h1⟩
    · cases h
  · have h : enuGo (seqOf L1 x) j = some (some y) := h
    unfold enuGo at h
    split at h
    · rename_i xs hx
      obtain ⟨vs, k, r⟩ := at' e R hx
      obtain ⟨z, hz, ez⟩ := Option.map_eq_some_iff.mp (Option.some.inj h)
      obtain ⟨u, h1, r1⟩ := r.get hz
      obtain ⟨T, x', rfl, hp, rfl, f⟩ := yy
      have g1 := f _ k; rw [h1] at g1; cases g1
      subst ez
      exact ⟨Ext.fresh hp, R.fresh hp, T, [.int (j : Nat), u], rfl, .inl ⟨R.new hp, R.newF hp, .inl upd_same⟩, (RVs.cons (show RV G m1 H1 (.int j) (.int (j : Nat)) from rfl) (RVs.one r1)).mono (Ext.fresh hp).le⟩
    · cases h
def enuS (fa : LE) : LSrc := fun cb s L => (argsE cb s [fa] L).bind fun xs L1 => match xs with
  | [x] => match seqOf L1 x with
    | some us => .ok (enuG x us.length) L1
    | _ => .fail
  | _ => .fail
theorem si_enu {a : Expr} {fa : LE} {p pos : Pos} {elts : List Expr} {n : Nat} {tpos : Pos} (hK : X.K = G.K) (hg : Gl X "enumerate") (hm : X.mg "enumerate" = none) (ha : SE G cb X a fa) (hp : plainA a = true) :
    SI G cb X (.Tuple elts n tpos) (.Call (.Name "enumerate" p) [a] [] pos) (enuS fa) := by
  intro m L s H σ w L1 R Rp S h k
  have hpl : [a].all plainA = true := by simp [hp]
  have al : Al (SE G cb X) [a] [fa] := .cons ha .nil
  unfold enuS at h
  cases ea : argsE cb s [fa] L with
  | fail => rw [ea] at h; cases h
  | ok xs L2 =>
    rw [ea, Res.bind_ok] at h
    refine PI.wi (pi_enum hg hm (WA.pa X [a]) (by rw [star_cons hp]; rfl)) (args_use al hpl Rp S ea fun m1 H1 vs e1 R1 r1 => ?_)
    split at h
    · rename_i x
      split at h
      · rename_i us i1
        cases h
        obtain ⟨v, ev, r⟩ := r1.inv1
        subst ev
        obtain ⟨a1, v1, q, k1, _⟩ := seqOf_ok R1 i1 r
        subst q
        refine ⟨a1, v1, rfl, by rw [hK]; exact k1, ?_⟩
        rw [hK]
        exact k m1 H1 _ e1 R1 ⟨it_enu r, fun D hD => it_enu (r.gm (Gm.hide hD))⟩
      · cases h
    · cases h
end
end Ev

set_option maxHeartbeats 4000000
/-! Ev9: comprehensions; dicts walked under a lock. -/
namespace Ev
open PySem PySem.Spec PyProof.Rows L2

/-! ### locking -/
section
variable {G : GI} {m m2 : List Addr} {L : List LO} {H H2 : Hp} {d : Addr} {od : Obj} {kv : List (Key × V)}
theorem lock_le {F : List Addr} (hd : H d = some (.dK kv)) : Le F m H m (upd H d (.frz od (.dK kv))) := by
  refine ⟨⟨[], by simp⟩, fun b hb _ w nf r => ⟨?_, hb⟩⟩
  by_cases e : b = d
  · subst e
    rcases r with r | ⟨o, r⟩
    · rw [hd] at r; cases r; exact .inr ⟨od, upd_same⟩
    · rw [hd] at r; cases r
  · rcases r with r | ⟨o, r⟩
    · exact .inl (by rw [upd_ne e]; exact r)
    · exact .inr ⟨o, by rw [upd_ne e]; exact r⟩
theorem unlock_le {F : List Addr} (hd : H d = some (.frz od (.dK kv))) : Le F m H m (upd H d (.dK kv)) := by
  refine ⟨⟨[], by simp⟩, fun b hb _ w nf r => ⟨?_, hb⟩⟩
  by_cases e : b = d
  · subst e
    rcases r with r | ⟨o, r⟩
    · rw [hd] at r; cases r; exact nf.elim
    · rw [hd] at r; cases r; exact .inl upd_same
  · rcases r with r | ⟨o, r⟩
    · exact .inl (by rw [upd_ne e]; exact r)
    · exact .inr ⟨o, by rw [upd_ne e]; exact r⟩
/-- a thing that is no part of the logical heap is put another way -/
theorem Rep.aside {u : HO} (R : Rep G m L H) (hd : d ∉ m) (le : Le G.hid m H m (upd H d u)) (no : ∀ a, H d ≠ some (.own a)) : Rep G m L (upd H d u) := by
  refine ⟨R.len, R.nd, fun i a o h1 h2 => ?_, fun b hb => ?_⟩
  · refine (R.obj i a o h1 h2).mono le (upd_ne (fun e => hd (e ▸ List.mem_of_getElem? h1))) fun b hb e => ⟨?_, hb⟩
    rw [upd_ne (fun z : b = d => no a (by rw [← z]; exact e))]
    exact e
  · obtain ⟨x, w, e⟩ := R.hid b hb
    by_cases hb' : b = d
    · subst hb'; exact ⟨x, u, upd_same⟩
    · exact ⟨x, w, by rw [upd_ne hb']; exact e⟩
theorem Le.put {F : List Addr} {a : Addr} {u : HO} (ha : a ∈ m) : Le F m H m (upd H a u) :=
  ⟨⟨[], by simp⟩, fun b hb _ w _ r => ⟨by
    have ne : b ≠ a := fun e => hb (by rw [e]; exact ha)
    rcases r with r | ⟨o, r⟩
    · exact .inl (by rw [upd_ne ne]; exact r)
    · exact .inr ⟨o, by rw [upd_ne ne]; exact r⟩, hb⟩⟩
theorem Rep.put {i : Nat} {a : Addr} {u : HO} {o : LO} (R : Rep G m L H) (hi : m[i]? = some a) (r : RO G m (upd H a u) a o) : Rep G m (L.set i o) (upd H a u) := by
  have ha : a ∈ m := List.mem_of_getElem? hi
  refine ⟨by simp [R.len], R.nd, fun j b x h1 h2 => ?_, fun b hb => ?_⟩
  · by_cases hj : j = i
    · subst hj
      rw [hi] at h1; cases h1
      rw [List.getElem?_set_self (by rw [← R.len]; exact (List.getElem?_eq_some_iff.mp hi).1)] at h2
      cases h2
      exact r
    · rw [List.getElem?_set_ne (Ne.symm hj)] at h2
      have hb : b ≠ a := fun e => by
        subst e
        obtain ⟨x1, e1⟩ := List.getElem?_eq_some_iff.mp h1
        obtain ⟨x2, e2⟩ := List.getElem?_eq_some_iff.mp hi
        exact hj ((List.getElem_inj R.nd).mp (e1.trans e2.symm))
      refine (R.obj j b x h1 h2).mono (Le.put ha) (upd_ne hb) fun c hc e => ⟨?_, hc⟩
      rw [upd_ne (fun z : c = a => hc (by rw [z]; exact ha))]
      exact e
  · obtain ⟨x, w, e⟩ := R.hid b hb
    exact ⟨x, w, by rw [upd_ne (fun z : b = a => x (by rw [z]; exact ha))]; exact e⟩
theorem Ext.unlocked (hd : H d = some (.dK kv)) (e : Ext m (upd H d (.frz od (.dK kv))) m2 H2) : Ext m H m2 (upd H2 d (.dK kv)) := by
  refine ⟨e.pre, fun b hb o h => ?_, fun b o u h => ?_⟩
  · by_cases hb' : b = d
    · subst hb'
      rw [hd] at h; cases h
      exact ⟨upd_same, (e.out b hb _ upd_same).2⟩
    · obtain ⟨x, y⟩ := e.out b hb o (by rw [upd_ne hb']; exact h)
      exact ⟨by rw [upd_ne hb']; exact x, y⟩
  · have hb' : b ≠ d := fun z => by subst z; rw [hd] at h; cases h
    rw [upd_ne hb']
    exact e.frz b o u (by rw [upd_ne hb']; exact h)
end
/-- the dict at the logical place i is unlocked -/
def unl {α : Type} (i : Nat) (r : Res α) : Res α := r.bind fun x L => match L[i]? with
  | some (.lkd kvs) => .ok x (L.set i (.dct kvs))
  | _ => .fail
section
variable {G : GI} {m m2 : List Addr} {L L2 : List LO} {H H2 : Hp} {d : Addr} {od : Obj} {kv : List (Key × V)}
/-- behind the lock: a dict that is a tree -/
theorem back1 (hd : H d = some (.dK kv)) (nm : d ∉ m) (e : Ext m (upd H d (.frz od (.dK kv))) m2 H2) (R2 : Rep G m2 L2 H2) :
    H2 d = some (.frz od (.dK kv)) ∧ Ext m H m2 (upd H2 d (.dK kv)) ∧ Rep G m2 L2 (upd H2 d (.dK kv)) ∧ Le G.hid m2 H2 m2 (upd H2 d (.dK kv)) := by
  have f := e.frz d od _ upd_same
  refine ⟨f, e.unlocked hd, R2.aside (e.out d nm _ upd_same).2 (unlock_le f) (fun a z => ?_), unlock_le f⟩
  rw [f] at z; cases z
/-- .. an object of the logical heap -/
theorem back2 {i : Nat} {kvs : List (DK × LV)} (hd : H d = some (.dK kv)) (hm : m[i]? = some d) (e : Ext m (upd H d (.frz od (.dK kv))) m2 H2) (R2 : Rep G m2 L2 H2) (hl : L2[i]? = some (.lkd kvs)) :
    H2 d = some (.frz od (.dK kv)) ∧ Ext m H m2 (upd H2 d (.dK kv)) ∧ Rep G m2 (L2.set i (.dct kvs)) (upd H2 d (.dK kv)) ∧ Le G.hid m2 H2 m2 (upd H2 d (.dK kv)) := by
  have f := e.frz d od _ upd_same
  have hm2 := (e.le (F := [])).get hm
  refine ⟨f, e.unlocked hd, R2.put hm2 ?_, unlock_le f⟩
  obtain ⟨b, hb, o, ro⟩ := R2.at hl
  rw [hm2] at hb; cases hb
  rcases ro with ⟨kv2, h1, h2⟩ | ⟨kv2, n, h1, h2⟩
  · rw [f] at h1; cases h1
    exact .inl ⟨kv, upd_same, RKs.mono (unlock_le f) h2⟩
  · rw [f] at h1; cases h1
end

/-! ### for over a name that may hold a dict -/
section
variable {G : GI} {cb : CB} {X : Cx} {m : List Addr} {L : List LO} {s : Sl} {H : Hp} {σ : L2.St}
def forN (i : Nat) (t : Tg) (body : LSt) : LSt := fun cb s L => match s[i]? with
  | some (some (.dct kvs)) => if kDict kvs = true then loopW (seqG (keysL kvs)).get t body cb (seqG (keysL kvs)).fuel 0 s L else .fail
  | some (some (.ref k)) => match L[k]? with
    | some (.dct kvs) => if kDict kvs = true then unl k (loopW (seqG (keysL kvs)).get t body cb (seqG (keysL kvs)).fuel 0 s (L.set k (.lkd kvs))) else .fail
    | _ => forE (valS (varE i)) t body cb s L
  | _ => forE (valS (varE i)) t body cb s L
/-- the ends behind a lock -/
def Dl (d : Addr) (od : Obj) (u : HO) (D : Ends) : Ends := ⟨fun σ' H' => H' d = some (.frz od u) ∧ D.nx σ' (upd H' d u), fun v H' => H' d = some (.frz od u) ∧ D.rt v (upd H' d u), fun σ' H' => H' d = some (.frz od u) ∧ D.bk σ' (upd H' d u), fun σ' H' => H' d = some (.frz od u) ∧ D.ct σ' (upd H' d u)⟩
theorem post_back1 {r : Res (Fl × Sl)} {d : Addr} {od : Obj} {kv : List (Key × V)} {D : Ends} (hd : H d = some (.dK kv)) (nm : d ∉ m) (h : PostS G m H r D) : PostS G m (upd H d (.frz od (.dK kv))) r (Dl d od (.dK kv) D) := by
  cases r with
  | fail => exact h
  | ok x L2 =>
    obtain ⟨f, s2⟩ := x
    intro m2 H2 σ2 e R S
    obtain ⟨b1, b2, b3, b4⟩ := back1 hd nm e R
    have q := h m2 _ σ2 b2 b3 (S.mono b4)
    cases f with
    | next => exact ⟨b1, q⟩
    | brk => exact ⟨b1, q⟩
    | cont => exact ⟨b1, q⟩
    | ret x => exact fun v r => ⟨b1, q v (r.mono b4)⟩
theorem post_back2 {r : Res (Fl × Sl)} {i : Nat} {d : Addr} {od : Obj} {kv : List (Key × V)} {D : Ends} (hd : H d = some (.dK kv)) (hm : m[i]? = some d) (h : PostS G m H (unl i r) D) : PostS G m (upd H d (.frz od (.dK kv))) r (Dl d od (.dK kv) D) := by
  cases r with
  | fail => exact h
  | ok x L2 =>
    unfold unl at h
    rw [Res.bind_ok] at h
    split at h
    · rename_i kvs hl
      obtain ⟨f, s2⟩ := x
      intro m2 H2 σ2 e R S
      obtain ⟨b1, b2, b3, b4⟩ := back2 hd hm e R hl
      have q := h m2 _ σ2 b2 b3 (S.mono b4)
      cases f with
      | next => exact ⟨b1, q⟩
      | brk => exact ⟨b1, q⟩
      | cont => exact ⟨b1, q⟩
      | ret x => exact fun v r => ⟨b1, q v (r.mono b4)⟩
    · exact h.elim
theorem ss_forN {i : Nat} {x : Str} {tg : Expr} {body : List Stmt} {xp pos : Pos} {t : Tg} {fb : LSt} (hN : X.N[i]? = some x) (hv : Vis X.env.scope x) (hd : (x == ("__debug__" : Str)) = false) (hcd : (x == ("__classdict__" : Str)) = false)
    (hK : X.K = G.K) (hp : PassesOwn (model X.prog X.w) X.A X.env X.xe) (hc : X.calm = true) (hT : SG G X tg t) (hB : SB G cb X body fb) : SS G cb X (.For tg (.Name x xp) body [] pos) (forN i t fb) := by
  intro m L s H σ D R S h
  have plain : PostS G m H (forE (valS (varE i)) t fb cb s L) D → WS X (.For tg (.Name x xp) body [] pos) D σ H := fun h =>
    ss_for hp hc (si_val hK (se_var hN hv hd hcd)) hT hB rfl m L s H σ D R S h
  have pi : PI X tg (.Name x xp) (iKeys (tVar i)) := pi_keys (pe_var hN hv hd hcd)
  have pf := ps_for (pos := pos) hp hc pi (WG.pg X tg) (WB.pss X body) (folded_of rfl)
  -- the loop over a locked dict
  have run : ∀ {L' : List LO} {H' : Hp} {D' : Ends} {d : Addr} {od : Obj} {kvs : List (DK × LV)} {kv : List (Key × V)}, σ[i]? = some (some (.ref d)) → H' d = some (.frz od (.dK kv)) → RKs G m H' kvs (kv.map fun p => (DK.k p.1, p.2)) → Rep G m L' H' → RS G m H' s σ →
      PostS G m H' (loopW (seqG (keysL kvs)).get t fb cb (seqG (keysL kvs)).fuel 0 s L') D' → tFor (iKeys (tVar i)) (WG X tg) (WB X body) D' σ H' := fun hs hd r R S h =>
    ⟨_, hs, _, _, rfl, .inl ⟨_, hd, loop_ok (w := seqG _) (it_keys hd r) hT hB R S h⟩⟩
  unfold forN at h
  split at h
  · rename_i kvs hs
    split at h
    · rename_i hkd
      obtain ⟨v, e, a, ev, nm, nf, dd⟩ := S.at' i _ hs
      subst ev
      obtain ⟨kv, rd, r⟩ := dd.kd hkd
      rcases rd with rd | ⟨o, rd⟩
      · refine PS.ws (ps_lock pf) ⟨a, .dK kv, rd, trivial, fun od => ?_⟩
        exact run e upd_same (RKs.mono (lock_le rd) r) (R.aside nm (lock_le rd) (fun b z => by rw [rd] at z; cases z)) (S.mono (lock_le rd)) (post_back1 rd nm h)
      · exact PS.ws pf (run e rd r R S h)
    · exact h.elim
  · rename_i k hs
    split at h
    · rename_i kvs hx
      split at h
      · rename_i hkd
        obtain ⟨v, e, a, ev, hm⟩ := S.at' i _ hs
        subst ev
        obtain ⟨b, hb, ro⟩ := R.at hx
        rw [hm] at hb; cases hb
        obtain ⟨kv, rd, r⟩ := DcX.kd (show DcX (fun u => H a = some u) (RKs G m H kvs) from ro) hkd
        refine PS.ws (ps_lock pf) ⟨a, .dK kv, rd, trivial, fun od => ?_⟩
        have r2 := RKs.mono (lock_le (F := G.hid) (m := m) (od := od) rd) r
        exact run e upd_same r2 (R.put (o := .lkd kvs) hm ⟨od, .inl ⟨kv, upd_same, r2⟩⟩) (S.mono (lock_le rd)) (post_back2 rd hm h)
      · exact h.elim
    · exact plain h
  · exact plain h
end

/-! ### comprehensions -/
def wipeL (s : Sl) : List Nat → Sl
  | [] => s
  | v :: vs => (wipeL s vs).set v none
theorem wipeL_some {s : Sl} {i : Nat} {x : LV} : ∀ {vs : List Nat}, (wipeL s vs)[i]? = some (some x) → s[i]? = some (some x) ∧ i ∉ vs
  | [], h => ⟨h, by simp⟩
  | v :: vs, h => by
    unfold wipeL at h
    by_cases hi : v = i
    · subst hi
      by_cases hv : v < (wipeL s vs).length
      · rw [List.getElem?_set_self hv] at h; cases h
      · rw [List.getElem?_eq_none (by simpa using hv)] at h; cases h
    · rw [List.getElem?_set_ne hi] at h
      obtain ⟨h1, h2⟩ := wipeL_some h
      exact ⟨h1, by simp only [List.mem_cons, not_or]; exact ⟨fun e => hi e.symm, h2⟩⟩
theorem wipeL_length {s : Sl} : ∀ {vs : List Nat}, (wipeL s vs).length = s.length
  | [] => rfl
  | v :: vs => by unfold wipeL; rw [List.length_set, wipeL_length]
section
variable {G : GI} {cb : CB} {X : Cx} {m : List Addr} {L : List LO} {s : Sl} {H : Hp} {σ : L2.St}
theorem RS.wipe (S : RS G m H s σ) (vs : List Nat) : RS G m H (wipeL s vs) (L2.wipe σ vs) :=
  ⟨by rw [wipe_length, wipeL_length]; exact S.len, fun i x h => by
    obtain ⟨h1, h2⟩ := wipeL_some h
    obtain ⟨v, e, r⟩ := S.at' i x h1
    exact ⟨v, by rw [wipe_out h2]; exact e, r⟩⟩
theorem RS.gm {G' : GI} {m' : List Addr} (S : RS G m H s σ) (l : Gm G G' m m' H) : RS G' m' H s σ := ⟨S.len, fun i x h => let ⟨v, e, r⟩ := S.at' i x h; ⟨v, e, r.gm l⟩⟩
/-- one step of filling: the item of a turn, its tests and element; what is made, from here on -/
def lcW (get : Nat → List LO → Option (Option LV)) (t : Tg) (test : LT) (elt : LE) (cb : CB) (s : Sl) : Nat → Nat → List LO → Res (List LV)
  | 0, _, _ => .fail
  | n + 1, j, L => match get j L with
    | none => .fail
    | some none => .ok [] L
    | some (some x) => match stT t x s with
      | none => .fail
      | some s1 => (test cb s1 L).bind fun b L1 => match b with
        | false => lcW get t test elt cb s n (j + 1) L1
        | true => (elt cb s1 L1).bind fun y L2 => (lcW get t test elt cb s n (j + 1) L2).bind fun ys L3 => .ok (y :: ys) L3
def yesT : LT := fun _ _ L => .ok true L
/-- the contexts of a comprehension's block -/
abbrev bk (X : Cx) (scope : Scope) (s : Shared) (H : Hp) (C : Addr) (cl : List (Str × Addr)) (fp : List Addr) : Cx := X.blk s H scope (compEnvC scope cl C X.env) fp
def BE (X : Cx) (scope : Scope) (e : Expr) : TE := fun σ H Q => ∀ s0 H0 C cl fp, WE (bk X scope s0 H0 C cl fp) e σ H Q
def BT (X : Cx) (scope : Scope) (e : Expr) : TT := fun σ H Q => ∀ s0 H0 C cl fp, WT (bk X scope s0 H0 C cl fp) e σ H Q
def BG (X : Cx) (scope : Scope) (e : Expr) : TG := fun v σ H Q => ∀ s0 H0 C cl fp, WG (bk X scope s0 H0 C cl fp) e v σ H Q
theorem BE.pe {scope : Scope} {e : Expr} (s0 H0 C cl fp) : PE (bk X scope s0 H0 C cl fp) e (BE X scope e) := ⟨fun pins s σ H Q I h => h s0 H0 C cl fp pins s I⟩
theorem BT.pt {scope : Scope} {e : Expr} (s0 H0 C cl fp) : PT (bk X scope s0 H0 C cl fp) e (BT X scope e) := ⟨fun pins s σ H Q I h => h s0 H0 C cl fp pins s I⟩
theorem BG.pg {scope : Scope} {e : Expr} (s0 H0 C cl fp) : PG (bk X scope s0 H0 C cl fp) e (BG X scope e) := ⟨fun pins s σ H v u Q I r h => h s0 H0 C cl fp pins s u I r⟩
/-- the tests of a clause: none or one -/
def BTs (X : Cx) (scope : Scope) : List Expr → TT
  | [] => tYes
  | c :: _ => BT X scope c
theorem BTs.pts {scope : Scope} {ifs : List Expr} (h : ifs.length ≤ 1) (s0 H0 C cl fp) : PTs (bk X scope s0 H0 C cl fp) ifs (BTs X scope ifs) := by
  match ifs, h with
  | [], _ => exact pts_nil
  | [c], _ => exact pts_one (BT.pt s0 H0 C cl fp)
  | _ :: _ :: _, h => simp at h
def STs (G : GI) (cb : CB) (X : Cx) : List Expr → LT → Prop
  | [], f => f = yesT
  | c :: _, f => ST G cb X c f

/-- a list is filled: from the walk on -/
theorem lc_ok {scope : Scope} {tg elt : Expr} {ifs : List Expr} {t : Tg} {ft : LT} {fe : LE} {J : It} {w : Src} {mu : Bool} {own : List Nat} {Q : VK} {m1 : List Addr} {H1 : Hp} {L1 : List LO} (I : ItAll G m1 H1 J w)
    (hT : ∀ F s0 H0 C cl fp, SG (G.at F) (bk X scope s0 H0 C cl fp) tg t) (hI : ∀ F s0 H0 C cl fp, STs (G.at F) cb (bk X scope s0 H0 C cl fp) ifs ft) (hE : ∀ F s0 H0 C cl fp, SE (G.at F) cb (bk X scope s0 H0 C cl fp) elt fe) (hown : ∀ i ∈ tgS t, i ∈ own)
    (R1 : Rep G m1 L1 H1) (S1 : RS G m1 H1 s σ) (h : PostE G m1 H1 ((lcW w.get t ft fe cb (wipeL s own) w.fuel 0 L1).bind fun ys L2 => if ys.length < sizeLine then newL mu ys L2 else .fail) Q) :
    ∀ D, H1 D = none → ∃ W : Nat → Nat → Hp → Prop, (∃ mm, W 0 mm (upd H1 D (.lst []))) ∧ ∀ i mm H, W i mm H →
      (J.stop i H ∧ Q (.ref D) H) ∨ (J.go i H ∧ ∃ Nx : Hp → Prop, (∀ H', Nx H' → ∃ m', m' < mm ∧ W (i + 1) m' H') ∧ ∀ x H', J.yld i H x H' → BG X scope tg x (L2.wipe σ own) H' fun σ2 H2 => L2.wipe σ2 own = L2.wipe σ own ∧ BTs X scope ifs σ2 H2 fun b H3 =>
        if b = true then BE X scope elt σ2 H3 fun y H4 => ∃ acc, H4 D = some (.lst acc) ∧ acc.length < sizeLine ∧ Nx (upd H4 D (.lst (acc ++ [y]))) else Nx H3) := by
  intro D hD
  have I' := I.hide D hD
  -- what holds ahead of a turn
  refine ⟨fun i mm H => ∃ m L ys acc, Ext m1 H1 m H ∧ Rep (G.hide D) m L H ∧ RS (G.hide D) m H s σ ∧ H D = some (.lst acc) ∧ RVs (G.hide D) m H ys acc ∧
      PostE G m1 H1 ((lcW w.get t ft fe cb (wipeL s own) mm i L).bind fun zs L2 => if (ys ++ zs).length < sizeLine then newL mu (ys ++ zs) L2 else .fail) Q, ⟨w.fuel, m1, L1, [], [], Ext.fresh hD, R1.hide hD, ?_, upd_same, rfl, h⟩, ?_⟩
  · exact (S1.gm (Gm.hide hD)).mono (Ext.fresh hD).le
  rintro i mm H ⟨m, L, ys, acc, e, R, S, hDa, ry, h⟩
  cases mm with
  | zero => exact h.elim
  | succ n =>
    have nD := (R.hid D List.mem_cons_self).1
    unfold lcW at h
    split at h
    · exact h.elim
    · rename_i hg
      refine .inl ⟨I'.stop i m H L e R hg, ?_⟩
      rw [Res.bind_ok, List.append_nil] at h
      split at h
      · have nf : D ∉ G.hid := R1.newF hD
        cases mu with
        | false => exact h m H _ e R.show ⟨D, acc, rfl, .inl ⟨nD, nf, .inl hDa⟩, ry.gm Gm.show⟩
        | true =>
          have r2 : RO G (m ++ [D]) H D (.lst ys) := ⟨acc, hDa, ry.gm Gm.give⟩
          have R2 := R.give nf (fun a z => by rw [hDa] at z; cases z) r2
          refine h (m ++ [D]) H _ ⟨?_, fun b hb o q => ?_, e.frz⟩ R2 ⟨D, rfl, ?_⟩
          · obtain ⟨l, el⟩ := e.pre
            exact ⟨l ++ [D], by rw [el, List.append_assoc]⟩
          · obtain ⟨x, y⟩ := e.out b hb o q
            refine ⟨x, fun z => ?_⟩
            rcases List.mem_append.mp z with z | z
            · exact y z
            · rw [List.mem_singleton.mp z, hD] at q; cases q
          · rw [← R.len]; simp
      · exact h.elim
    · rename_i x hg
      refine .inr ⟨I'.go i m H L x e R hg, fun H' => ∃ m L ys acc, Ext m1 H1 m H' ∧ Rep (G.hide D) m L H' ∧ RS (G.hide D) m H' s σ ∧ H' D = some (.lst acc) ∧ RVs (G.hide D) m H' ys acc ∧
        PostE G m1 H1 ((lcW w.get t ft fe cb (wipeL s own) n (i + 1) L).bind fun zs L2 => if (ys ++ zs).length < sizeLine then newL mu (ys ++ zs) L2 else .fail) Q, fun H' hN => ⟨n, Nat.lt_succ_self n, hN⟩, fun v H' y => ?_⟩
      obtain ⟨e2, R2, r2⟩ := I'.yld i m H L x v H' e R hg y
      have e12 := e.trans e2
      have hDa2 := (e2.out D nD _ hDa).1
      split at h
      · exact h.elim
      · rename_i s1 hs
        intro s0 H0 C cl fp
        refine hT (D :: G.hid) s0 H0 C cl fp m H' (wipeL s own) s1 (L2.wipe σ own) x v _ ((S.mono e2.le).wipe own) r2 hs fun σ2 S2 c2 => ⟨?_, ?_⟩
        · have q1 := c2 own hown
          have q2 : L2.wipe (L2.wipe σ own) own = L2.wipe σ own := by
            apply List.ext_getElem?
            intro j
            by_cases hj : j ∈ own
            · by_cases hl : j < σ.length
              · rw [wipe_in hj (by rw [wipe_length]; exact hl), wipe_in hj hl]
              · rw [List.getElem?_eq_none (by rw [wipe_length, wipe_length]; omega), List.getElem?_eq_none (by rw [wipe_length]; omega)]
            · rw [wipe_out hj]
          rw [q1, q2]
        · -- the tests, then the element
          have go : ∀ {b : Bool} {L3 : List LO} {m3 : List Addr} {H3 : Hp}, Ext m H' m3 H3 → Rep (G.hide D) m3 L3 H3 → ft cb s1 L = .ok b L3 →
              (if b = true then BE X scope elt σ2 H3 fun y H4 => ∃ acc, H4 D = some (.lst acc) ∧ acc.length < sizeLine ∧ (∃ m L ys acc', Ext m1 H1 m (upd H4 D (.lst (acc ++ [y]))) ∧ Rep (G.hide D) m L (upd H4 D (.lst (acc ++ [y]))) ∧ RS (G.hide D) m (upd H4 D (.lst (acc ++ [y]))) s σ ∧ (upd H4 D (.lst (acc ++ [y]))) D = some (.lst acc') ∧ RVs (G.hide D) m (upd H4 D (.lst (acc ++ [y]))) ys acc' ∧
                PostE G m1 H1 ((lcW w.get t ft fe cb (wipeL s own) n (i + 1) L).bind fun zs L2 => if (ys ++ zs).length < sizeLine then newL mu (ys ++ zs) L2 else .fail) Q)
              else ∃ m L ys acc, Ext m1 H1 m H3 ∧ Rep (G.hide D) m L H3 ∧ RS (G.hide D) m H3 s σ ∧ H3 D = some (.lst acc) ∧ RVs (G.hide D) m H3 ys acc ∧
                PostE G m1 H1 ((lcW w.get t ft fe cb (wipeL s own) n (i + 1) L).bind fun zs L2 => if (ys ++ zs).length < sizeLine then newL mu (ys ++ zs) L2 else .fail) Q) := by
            intro b L3 m3 H3 e3 R3 et
            rw [et, Res.bind_ok] at h
            have hDa3 := (e3.out D nD _ hDa2).1
            have nD3 := (e3.out D nD _ hDa2).2
            cases b with
            | false =>
              rw [if_neg Bool.false_ne_true]
              exact ⟨m3, L3, ys, acc, e12.trans e3, R3, S.mono (e2.trans e3).le, hDa3, ry.mono (e2.trans e3).le, h⟩
            | true =>
              rw [if_pos rfl]
              intro s0 H0 C cl fp
              cases ee : fe cb s1 L3 with
              | fail => rw [ee] at h; exact h.elim
              | ok z L4 =>
                rw [ee, Res.bind_ok] at h
                refine (hE (D :: G.hid) s0 H0 C cl fp).use R3 (S2.mono e3.le) ee fun m4 H4 vz e4 R4 r4 => ?_
                obtain ⟨hDa4, nD4⟩ := e4.out D nD3 _ hDa3
                have e14 : Ext m1 H1 m4 H4 := e12.trans (e3.trans e4)
                have le : Le (G.hide D).hid m4 H4 m4 (upd H4 D (.lst (acc ++ [vz]))) := Le.hid List.mem_cons_self
                have ry4 : RVs (G.hide D) m4 H4 ys acc := ry.mono (e2.trans (e3.trans e4)).le
                -- how long it is
                cases el : lcW w.get t ft fe cb (wipeL s own) n (i + 1) L4 with
                | fail => rw [el] at h; exact h.elim
                | ok zs L5 =>
                  rw [el, Res.bind_ok, Res.bind_ok] at h
                  have hlen : (ys ++ z :: zs).length < sizeLine := by
                    by_cases q : (ys ++ z :: zs).length < sizeLine
                    · exact q
                    · rw [if_neg q] at h; exact h.elim
                  have hl2 : acc.length < sizeLine := by
                    have := ry4.length
                    rw [List.length_append, List.length_cons] at hlen
                    omega
                  refine ⟨acc, hDa4, hl2, m4, L4, ys ++ [z], acc ++ [vz], ?_, R4.whid List.mem_cons_self (fun a q => by rw [hDa4] at q; cases q), (S.mono (e2.trans (e3.trans e4)).le).mono le, upd_same, (ry4.append (RVs.one r4)).mono le, ?_⟩
                  · refine ⟨e14.pre, fun b hb o q => ?_, fun b o u q => ?_⟩
                    · have ne : b ≠ D := fun z => by rw [z, hD] at q; cases q
                      rw [upd_ne ne]
                      exact e14.out b hb o q
                    · have ne : b ≠ D := fun z => by rw [z, hD] at q; cases q
                      rw [upd_ne ne]
                      exact e14.frz b o u q
                  · rw [el, Res.bind_ok, List.append_assoc, List.singleton_append]
                    exact h
          match ifs, hI with
          | [], hI =>
            have ef : ft = yesT := hI (D :: G.hid) s0 H0 C cl fp
            exact go Ext.refl R2 (by rw [ef]; rfl)
          | c :: r, hI =>
            intro s0 H0 C cl fp
            cases et : ft cb s1 L with
            | fail => rw [et] at h; exact h.elim
            | ok b L3 => exact ST.use (hI (D :: G.hid) s0 H0 C cl fp) R2 S2 et fun m3 H3 e3 R3 => go e3 R3 et
end
end Ev

set_option maxHeartbeats 4000000
/-! Ev10: comprehensions as expressions; dict comprehensions. -/
namespace Ev
open PySem PySem.Spec PyProof.Rows L2
section
variable {G : GI} {cb : CB} {X : Cx} {m : List Addr} {L : List LO} {s : Sl} {H : Hp} {σ : L2.St}
def lcX (w : Src) (t : Tg) (ft : LT) (fe : LE) (own : List Nat) (mu : Bool) (cb : CB) (s : Sl) (L : List LO) : Res LV := (lcW w.get t ft fe cb (wipeL s own) w.fuel 0 L).bind fun ys L2 => if ys.length < sizeLine then newL mu ys L2 else .fail
def lcE (src : LSrc) (t : Tg) (ft : LT) (fe : LE) (own : List Nat) (mu : Bool) : LE := fun cb s L => (src cb s L).bind fun w L1 => lcX w t ft fe own mu cb s L1
/-- what is known of a comprehension's block -/
structure BkOk (G : GI) (cb : CB) (X : Cx) (scope : Scope) (tg : Expr) (ifs : List Expr) (own : List (Str × Nat)) (t : Tg) (ft : LT) : Prop where
  ok : BlkOk X.N X.env.scope scope own
  tgt : ∀ F s0 H0 C cl fp, SG (G.at F) (bk X scope s0 H0 C cl fp) tg t
  few : ifs.length ≤ 1
  ifs : ∀ F s0 H0 C cl fp, STs (G.at F) cb (bk X scope s0 H0 C cl fp) ifs ft
  own : ∀ i ∈ tgS t, i ∈ own.map (·.2)
theorem lc_read {scope : Scope} {tg elt iter : Expr} {ifs : List Expr} {own : List (Str × Nat)} {t : Tg} {ft : LT} {fe : LE} {src : LSrc} {mu : Bool} (B : BkOk G cb X scope tg ifs own t ft)
    (hi : SI G cb X tg iter src) (hE : ∀ F s0 H0 C cl fp, SE (G.at F) cb (bk X scope s0 H0 C cl fp) elt fe) {Q : VK} (R : Rep G m L H) (S : RS G m H s σ) (h : PostE G m H (lcE src t ft fe (own.map (·.2)) mu cb s L) Q) :
    tLc (WI X tg iter) (BG X scope tg) (BTs X scope ifs) (BE X scope elt) (own.map (·.2)) σ H Q := by
  unfold lcE at h
  cases ew : src cb s L with
  | fail => rw [ew] at h; exact h.elim
  | ok w L1 =>
    rw [ew, Res.bind_ok] at h
    exact hi m L s H σ w L1 _ R S ew fun m1 H1 J e1 R1 I => lc_ok (mu := mu) I B.tgt B.ifs hE B.own R1 (S.mono e1.le) (h.at e1)
theorem se_lc {scope : Scope} {tg elt iter : Expr} {ifs : List Expr} {own : List (Str × Nat)} {t : Tg} {ft : LT} {fe : LE} {src : LSrc} {mu : Bool} {pos : Pos} (hc : X.calm = true) (hN : X.N.Nodup) (B : BkOk G cb X scope tg ifs own t ft)
    (hi : SI G cb X tg iter src) (hE : ∀ F s0 H0 C cl fp, SE (G.at F) cb (bk X scope s0 H0 C cl fp) elt fe) (hs : plainS iter = true) : SE G cb X (.ListComp elt [⟨tg, iter, ifs, 0⟩] scope pos) (lcE src t ft fe (own.map (·.2)) mu) := fun m L s H σ Q R S h =>
  PE.we (pe_lc hc hN (WI.pi X tg iter) B.ok (fun s0 H0 C cl fp => BG.pg s0 H0 C cl fp) (fun s0 H0 C cl fp => BTs.pts B.few s0 H0 C cl fp) (fun s0 H0 C cl fp => BE.pe s0 H0 C cl fp) (folded_of hs)) (lc_read B hi hE R S h)
theorem postE_back1 {r : Res LV} {d : Addr} {od : Obj} {kv : List (Key × V)} {Q : VK} (hd : H d = some (.dK kv)) (nm : d ∉ m) (h : PostE G m H r Q) : PostE G m (upd H d (.frz od (.dK kv))) r (fun v H' => H' d = some (.frz od (.dK kv)) ∧ Q v (upd H' d (.dK kv))) := by
  cases r with
  | fail => exact h
  | ok x L2 =>
    intro m2 H2 v e R r
    obtain ⟨b1, b2, b3, b4⟩ := back1 hd nm e R
    exact ⟨b1, h m2 _ v b2 b3 (r.mono b4)⟩
theorem postE_back2 {r : Res LV} {i : Nat} {d : Addr} {od : Obj} {kv : List (Key × V)} {Q : VK} (hd : H d = some (.dK kv)) (hm : m[i]? = some d) (h : PostE G m H (unl i r) Q) : PostE G m (upd H d (.frz od (.dK kv))) r (fun v H' => H' d = some (.frz od (.dK kv)) ∧ Q v (upd H' d (.dK kv))) := by
  cases r with
  | fail => exact h
  | ok x L2 =>
    unfold unl at h
    rw [Res.bind_ok] at h
    split at h
    · rename_i kvs hl
      intro m2 H2 v e R r
      obtain ⟨b1, b2, b3, b4⟩ := back2 hd hm e R hl
      exact ⟨b1, h m2 _ v b2 b3 (r.mono b4)⟩
    · exact h.elim
/-- over a name that may hold a dict: go is the comprehension over the keys -/
def overN (i : Nat) (go : Src → Sl → List LO → Res LV) (plain : Sl → List LO → Res LV) (s : Sl) (L : List LO) : Res LV := match s[i]? with
  | some (some (.dct kvs)) => if kDict kvs = true then go (seqG (keysL kvs)) s L else .fail
  | some (some (.ref k)) => match L[k]? with
    | some (.dct kvs) => if kDict kvs = true then unl k (go (seqG (keysL kvs)) s (L.set k (.lkd kvs))) else .fail
    | _ => plain s L
  | _ => plain s L
theorem overN_ok {i : Nat} {t : TE} {go : Src → Sl → List LO → Res LV} {plain : Sl → List LO → Res LV} {Q : VK} {C : Prop} (direct : t σ H Q → C)
    (lock : ∀ d u, H d = some u → Mut (some u) → (∀ od, t σ (upd H d (.frz od u)) (fun v H' => H' d = some (.frz od u) ∧ Q v (upd H' d u))) → C) (R : Rep G m L H) (S : RS G m H s σ) (h : PostE G m H (overN i go plain s L) Q)
    (hplain : PostE G m H (plain s L) Q → C)
    (run : ∀ {L' : List LO} {H' : Hp} {Q' : VK} {d : Addr} {od : Obj} {kvs : List (DK × LV)} {kv : List (Key × V)}, σ[i]? = some (some (.ref d)) → H' d = some (.frz od (.dK kv)) → RKs G m H' kvs (kv.map fun p => (DK.k p.1, p.2)) → Rep G m L' H' → RS G m H' s σ →
      PostE G m H' (go (seqG (keysL kvs)) s L') Q' → t σ H' Q') : C := by
  unfold overN at h
  split at h
  · rename_i kvs hs
    split at h
    · rename_i hkd
      obtain ⟨v, e, a, ev, nm, nf, dd⟩ := S.at' i _ hs
      subst ev
      obtain ⟨kv, rd, r⟩ := dd.kd hkd
      rcases rd with rd | ⟨o, rd⟩
      · refine lock a (.dK kv) rd trivial fun od => ?_
        exact run e upd_same (RKs.mono (lock_le rd) r) (R.aside nm (lock_le rd) (fun b z => by rw [rd] at z; cases z)) (S.mono (lock_le rd)) (postE_back1 rd nm h)
      · exact direct (run e rd r R S h)
    · exact h.elim
  · rename_i k hs
    split at h
    · rename_i kvs hx
      split at h
      · rename_i hkd
        obtain ⟨v, e, a, ev, hm⟩ := S.at' i _ hs
        subst ev
        obtain ⟨b, hb, ro⟩ := R.at hx
        rw [hm] at hb; cases hb
        obtain ⟨kv, rd, r⟩ := DcX.kd (show DcX (fun u => H a = some u) (RKs G m H kvs) from ro) hkd
        refine lock a (.dK kv) rd trivial fun od => ?_
        have r2 := RKs.mono (lock_le (F := G.hid) (m := m) (od := od) rd) r
        exact run e upd_same r2 (R.put (o := .lkd kvs) hm ⟨od, .inl ⟨kv, upd_same, r2⟩⟩) (S.mono (lock_le rd)) (postE_back2 rd hm h)
      · exact h.elim
    · exact hplain h
  · exact hplain h
def lcN (i : Nat) (t : Tg) (ft : LT) (fe : LE) (own : List Nat) (mu : Bool) : LE := fun cb s L => overN i (fun w s L => lcX w t ft fe own mu cb s L) (fun s L => lcE (valS (varE i)) t ft fe own mu cb s L) s L
theorem se_lcN {i : Nat} {x : Str} {xp : Pos} {scope : Scope} {tg elt : Expr} {ifs : List Expr} {own : List (Str × Nat)} {t : Tg} {ft : LT} {fe : LE} {mu : Bool} {pos : Pos} (hNi : X.N[i]? = some x) (hv : Vis X.env.scope x) (hd : (x == ("__debug__" : Str)) = false) (hcd : (x == ("__classdict__" : Str)) = false)
    (hK : X.K = G.K) (hc : X.calm = true) (hN : X.N.Nodup) (B : BkOk G cb X scope tg ifs own t ft) (hE : ∀ F s0 H0 C cl fp, SE (G.at F) cb (bk X scope s0 H0 C cl fp) elt fe) :
    SE G cb X (.ListComp elt [⟨tg, .Name x xp, ifs, 0⟩] scope pos) (lcN i t ft fe (own.map (·.2)) mu) := by
  intro m L s H σ Q R S h
  have pf := pe_lc (pos := pos) hc hN (pi_keys (tg := tg) (pe_var (pos := xp) hNi hv hd hcd)) B.ok (fun s0 H0 C cl fp => BG.pg s0 H0 C cl fp) (fun s0 H0 C cl fp => BTs.pts B.few s0 H0 C cl fp) (fun s0 H0 C cl fp => BE.pe (e := elt) s0 H0 C cl fp) (folded_of rfl)
  refine overN_ok (fun q => PE.we pf q) (fun d u h mu q => PE.we (pe_lock pf) ⟨d, u, h, mu, q⟩) R S h
    (fun h => se_lc hc hN B (si_val hK (se_var hNi hv hd hcd)) hE rfl m L s H σ Q R S h) fun hs hd r R S h => ?_
  exact ⟨_, hs, _, _, rfl, .inl ⟨_, hd, lc_ok (w := seqG _) (mu := mu) ⟨it_keys hd r, fun D hD => it_keys hd (RKs.gm (Gm.hide hD) r)⟩ B.tgt B.ifs hE B.own R S h⟩⟩
/-! .. stored at a name -/
/-- a value is stored in the slot i -/
def asgN (i : Nat) (f : LE) : LSt := fun cb s L => (f cb s L).bind fun x L1 => .ok (.next, s.set i (some x)) L1
theorem asg_post {i : Nat} {r : Res LV} {D : Ends} (S : RS G m H s σ) (h : PostS G m H (r.bind fun x L1 => .ok (.next, s.set i (some x)) L1) D) : PostE G m H r (fun v H' => D.nx (σ.set i (some v)) H') := by
  cases r with
  | fail => exact h
  | ok x L1 => exact fun m' H' v e R r => h m' H' _ e R ((S.mono e.le).set i r)
theorem ss_setLc {i : Nat} {y : Str} {py : Pos} {scope : Scope} {tg elt iter : Expr} {ifs : List Expr} {own : List (Str × Nat)} {t : Tg} {ft : LT} {fe : LE} {src : LSrc} {mu : Bool} {pos spos : Pos} (hc : X.calm = true) (hN : X.N.Nodup) (hy : X.N[i]? = some y) (hyl : X.env.scope.names.lookup y = some .local)
    (hsw : swapsWith (.ListComp elt [⟨tg, iter, ifs, 0⟩] scope pos) (some (.Name y py)) spos.line X.env = pure true) (B : BkOk G cb X scope tg ifs own t ft)
    (hi : SI G cb X tg iter src) (hE : ∀ F s0 H0 C cl fp, SE (G.at F) cb (bk X scope s0 H0 C cl fp) elt fe) (hs : plainS iter = true) :
    SS G cb X (.Assign [.Name y py] (.ListComp elt [⟨tg, iter, ifs, 0⟩] scope pos) spos) (asgN i (lcE src t ft fe (own.map (·.2)) mu)) := fun m L s H σ D R S h =>
  PS.ws (ps_setLc hc hN hy hyl hsw (WI.pi X tg iter) B.ok (fun s0 H0 C cl fp => BG.pg s0 H0 C cl fp) (fun s0 H0 C cl fp => BTs.pts B.few s0 H0 C cl fp) (fun s0 H0 C cl fp => BE.pe s0 H0 C cl fp) (folded_of hs)) (lc_read B hi hE R S (asg_post S h))
theorem ss_setLcN {i : Nat} {y : Str} {py : Pos} {k : Nat} {x : Str} {xp : Pos} {scope : Scope} {tg elt : Expr} {ifs : List Expr} {own : List (Str × Nat)} {t : Tg} {ft : LT} {fe : LE} {mu : Bool} {pos spos : Pos} (hc : X.calm = true) (hN : X.N.Nodup) (hy : X.N[i]? = some y) (hyl : X.env.scope.names.lookup y = some .local)
    (hsw : swapsWith (.ListComp elt [⟨tg, .Name x xp, ifs, 0⟩] scope pos) (some (.Name y py)) spos.line X.env = pure true) (hNi : X.N[k]? = some x) (hv : Vis X.env.scope x) (hd : (x == ("__debug__" : Str)) = false) (hcd : (x == ("__classdict__" : Str)) = false)
    (hK : X.K = G.K) (B : BkOk G cb X scope tg ifs own t ft) (hE : ∀ F s0 H0 C cl fp, SE (G.at F) cb (bk X scope s0 H0 C cl fp) elt fe) :
    SS G cb X (.Assign [.Name y py] (.ListComp elt [⟨tg, .Name x xp, ifs, 0⟩] scope pos) spos) (asgN i (lcN k t ft fe (own.map (·.2)) mu)) := by
  intro m L s H σ D R S h
  have pf := ps_setLc hc hN hy hyl hsw (pi_keys (tg := tg) (pe_var (pos := xp) hNi hv hd hcd)) B.ok (fun s0 H0 C cl fp => BG.pg s0 H0 C cl fp) (fun s0 H0 C cl fp => BTs.pts B.few s0 H0 C cl fp) (fun s0 H0 C cl fp => BE.pe (e := elt) s0 H0 C cl fp) (folded_of rfl)
  refine overN_ok (fun q => PS.ws pf q) (fun d u h mu q => PS.ws (ps_lock pf) ⟨d, u, h, mu, q⟩) R S (asg_post S h)
    (fun h2 => PS.ws (ps_setLc hc hN hy hyl hsw (WI.pi X tg _) B.ok (fun s0 H0 C cl fp => BG.pg s0 H0 C cl fp) (fun s0 H0 C cl fp => BTs.pts B.few s0 H0 C cl fp) (fun s0 H0 C cl fp => BE.pe s0 H0 C cl fp) (folded_of rfl)) (lc_read B (si_val hK (se_var hNi hv hd hcd)) hE R S h2)) fun hs hd r R S h => ?_
  exact ⟨_, hs, _, _, rfl, .inl ⟨_, hd, lc_ok (w := seqG _) (mu := mu) ⟨it_keys hd r, fun D hD => it_keys hd (RKs.gm (Gm.hide hD) r)⟩ B.tgt B.ifs hE B.own R S h⟩⟩

/-! ### dict comprehensions -/
def dcW (get : Nat → List LO → Option (Option LV)) (t : Tg) (test : LT) (kx vx : LE) (cb : CB) (s : Sl) : Nat → Nat → List (DK × LV) → List LO → Res (List (DK × LV))
  | 0, _, _, _ => .fail
  | n + 1, j, acc, L => match get j L with
    | none => .fail
    | some none => .ok acc L
    | some (some x) => match stT t x s with
      | none => .fail
      | some s1 => (test cb s1 L).bind fun b L1 => match b with
        | false => dcW get t test kx vx cb s n (j + 1) acc L1
        | true => (kx cb s1 L1).bind fun k L2 => (vx cb s1 L2).bind fun y L3 => match toDK k with
          | none => .fail
          | some k => if acc.length < sizeLine then dcW get t test kx vx cb s n (j + 1) (dput acc k y) L3 else .fail
theorem dput_kd {kvs : List (DK × LV)} {y : Key} {x : LV} (h : kDict kvs = true) : kDict (dput kvs (.k y) x) = true := by
  unfold kDict dput at *
  split
  · rw [List.all_map, List.all_eq_true] at *
    intro p hp
    have := h p hp
    simp only [Function.comp]
    by_cases e : p.1 = .k y
    · rw [if_pos e]; exact this
    · rw [if_neg e]; exact this
  · rw [List.all_append, h]; rfl
theorem dc_ok {scope : Scope} {tg kx vx : Expr} {ifs : List Expr} {t : Tg} {ft : LT} {fk fe : LE} {J : It} {w : Src} {mu : Bool} {own : List Nat} {Q : VK} {m1 : List Addr} {H1 : Hp} {L1 : List LO} (I : ItAll G m1 H1 J w)
    (hT : ∀ F s0 H0 C cl fp, SG (G.at F) (bk X scope s0 H0 C cl fp) tg t) (hI : ∀ F s0 H0 C cl fp, STs (G.at F) cb (bk X scope s0 H0 C cl fp) ifs ft) (hKx : ∀ F s0 H0 C cl fp, SE (G.at F) cb (bk X scope s0 H0 C cl fp) kx fk) (hE : ∀ F s0 H0 C cl fp, SE (G.at F) cb (bk X scope s0 H0 C cl fp) vx fe) (hown : ∀ i ∈ tgS t, i ∈ own)
    (R1 : Rep G m1 L1 H1) (S1 : RS G m1 H1 s σ) (h : PostE G m1 H1 ((dcW w.get t ft fk fe cb (wipeL s own) w.fuel 0 [] L1).bind fun ys L2 => newD mu ys L2) Q) :
    ∀ D, H1 D = none → ∃ W : Nat → Nat → Hp → Prop, (∃ mm, W 0 mm (upd H1 D (.dK []))) ∧ ∀ i mm H, W i mm H →
      (J.stop i H ∧ Q (.ref D) H) ∨ (J.go i H ∧ ∃ Nx : Hp → Prop, (∀ H', Nx H' → ∃ m', m' < mm ∧ W (i + 1) m' H') ∧ ∀ x H', J.yld i H x H' → BG X scope tg x (L2.wipe σ own) H' fun σ2 H2 => L2.wipe σ2 own = L2.wipe σ own ∧ BTs X scope ifs σ2 H2 fun b H3 =>
        if b = true then BE X scope kx σ2 H3 fun y H4 => BE X scope vx σ2 H4 fun z H5 => ∃ kvs k, y = kV k ∧ H5 D = some (.dK kvs) ∧ kvs.length < sizeLine ∧ Nx (upd H5 D (.dK (putK kvs k z))) else Nx H3) := by
  intro D hD
  have I' := I.hide D hD
  refine ⟨fun i mm H => ∃ m L ys kv, Ext m1 H1 m H ∧ Rep (G.hide D) m L H ∧ RS (G.hide D) m H s σ ∧ H D = some (.dK kv) ∧ RKs (G.hide D) m H ys (kv.map fun p => (DK.k p.1, p.2)) ∧
      PostE G m1 H1 ((dcW w.get t ft fk fe cb (wipeL s own) mm i ys L).bind fun zs L2 => newD mu zs L2) Q, ⟨w.fuel, m1, L1, [], [], Ext.fresh hD, R1.hide hD, ?_, upd_same, rfl, h⟩, ?_⟩
  · exact (S1.gm (Gm.hide hD)).mono (Ext.fresh hD).le
  rintro i mm H ⟨m, L, ys, kv, e, R, S, hDa, ry, h⟩
  cases mm with
  | zero => exact h.elim
  | succ n =>
    have nD := (R.hid D List.mem_cons_self).1
    unfold dcW at h
    split at h
    · exact h.elim
    · rename_i hg
      refine .inl ⟨I'.stop i m H L e R hg, ?_⟩
      rw [Res.bind_ok] at h
      have nf : D ∉ G.hid := R1.newF hD
      cases mu with
      | false => exact h m H _ e R.show ⟨D, rfl, nD, nf, .inl ⟨kv, .inl hDa, RKs.gm Gm.show ry⟩⟩
      | true =>
        have r2 : RO G (m ++ [D]) H D (.dct ys) := .inl ⟨kv, hDa, RKs.gm Gm.give ry⟩
        have R2 := R.give nf (fun a z => by rw [hDa] at z; cases z) r2
        refine h (m ++ [D]) H _ ⟨?_, fun b hb o q => ?_, e.frz⟩ R2 ⟨D, rfl, ?_⟩
        · obtain ⟨l, el⟩ := e.pre
          exact ⟨l ++ [D], by rw [el, List.append_assoc]⟩
        · obtain ⟨x, y⟩ := e.out b hb o q
          refine ⟨x, fun z => ?_⟩
          rcases List.mem_append.mp z with z | z
          · exact y z
          · rw [List.mem_singleton.mp z, hD] at q; cases q
        · rw [← R.len]; simp
    · rename_i x hg
      refine .inr ⟨I'.go i m H L x e R hg, fun H' => ∃ m L ys kv, Ext m1 H1 m H' ∧ Rep (G.hide D) m L H' ∧ RS (G.hide D) m H' s σ ∧ H' D = some (.dK kv) ∧ RKs (G.hide D) m H' ys (kv.map fun p => (DK.k p.1, p.2)) ∧
        PostE G m1 H1 ((dcW w.get t ft fk fe cb (wipeL s own) n (i + 1) ys L).bind fun zs L2 => newD mu zs L2) Q, fun H' hN => ⟨n, Nat.lt_succ_self n, hN⟩, fun v H' y => ?_⟩
      obtain ⟨e2, R2, r2⟩ := I'.yld i m H L x v H' e R hg y
      have e12 := e.trans e2
      have hDa2 := (e2.out D nD _ hDa).1
      split at h
      · exact h.elim
      · rename_i s1 hs
        intro s0 H0 C cl fp
        refine hT (D :: G.hid) s0 H0 C cl fp m H' (wipeL s own) s1 (L2.wipe σ own) x v _ ((S.mono e2.le).wipe own) r2 hs fun σ2 S2 c2 => ⟨?_, ?_⟩
        · have q1 := c2 own hown
          have q2 : L2.wipe (L2.wipe σ own) own = L2.wipe σ own := by
            apply List.ext_getElem?
            intro j
            by_cases hj : j ∈ own
            · by_cases hl : j < σ.length
              · rw [wipe_in hj (by rw [wipe_length]; exact hl), wipe_in hj hl]
              · rw [List.getElem?_eq_none (by rw [wipe_length, wipe_length]; omega), List.getElem?_eq_none (by rw [wipe_length]; omega)]
            · rw [wipe_out hj]
          rw [q1, q2]
        · have go : ∀ {b : Bool} {L3 : List LO} {m3 : List Addr} {H3 : Hp}, Ext m H' m3 H3 → Rep (G.hide D) m3 L3 H3 → ft cb s1 L = .ok b L3 →
              (if b = true then BE X scope kx σ2 H3 fun y H4 => BE X scope vx σ2 H4 fun z H5 => ∃ kvs k, y = kV k ∧ H5 D = some (.dK kvs) ∧ kvs.length < sizeLine ∧ (∃ m L ys kv', Ext m1 H1 m (upd H5 D (.dK (putK kvs k z))) ∧ Rep (G.hide D) m L (upd H5 D (.dK (putK kvs k z))) ∧ RS (G.hide D) m (upd H5 D (.dK (putK kvs k z))) s σ ∧ (upd H5 D (.dK (putK kvs k z))) D = some (.dK kv') ∧ RKs (G.hide D) m (upd H5 D (.dK (putK kvs k z))) ys (kv'.map fun p => (DK.k p.1, p.2)) ∧
                PostE G m1 H1 ((dcW w.get t ft fk fe cb (wipeL s own) n (i + 1) ys L).bind fun zs L2 => newD mu zs L2) Q)
              else ∃ m L ys kv, Ext m1 H1 m H3 ∧ Rep (G.hide D) m L H3 ∧ RS (G.hide D) m H3 s σ ∧ H3 D = some (.dK kv) ∧ RKs (G.hide D) m H3 ys (kv.map fun p => (DK.k p.1, p.2)) ∧
                PostE G m1 H1 ((dcW w.get t ft fk fe cb (wipeL s own) n (i + 1) ys L).bind fun zs L2 => newD mu zs L2) Q) := by
            intro b L3 m3 H3 e3 R3 et
            rw [et, Res.bind_ok] at h
            have hDa3 := (e3.out D nD _ hDa2).1
            have nD3 := (e3.out D nD _ hDa2).2
            cases b with
            | false =>
              rw [if_neg Bool.false_ne_true]
              exact ⟨m3, L3, ys, kv, e12.trans e3, R3, S.mono (e2.trans e3).le, hDa3, RKs.mono (e2.trans e3).le ry, h⟩
            | true =>
              rw [if_pos rfl]
              intro s0 H0 C cl fp
              cases ek : fk cb s1 L3 with
              | fail => rw [ek] at h; exact h.elim
              | ok kk L4 =>
                rw [ek, Res.bind_ok] at h
                refine (hKx (D :: G.hid) s0 H0 C cl fp).use R3 (S2.mono e3.le) ek fun m4 H4 vk e4 R4 r4 => ?_
                obtain ⟨hDa4, nD4⟩ := e4.out D nD3 _ hDa3
                intro s0 H0 C cl fp
                cases ee : fe cb s1 L4 with
                | fail => rw [ee] at h; exact h.elim
                | ok z L5 =>
                  rw [ee, Res.bind_ok] at h
                  refine (hE (D :: G.hid) s0 H0 C cl fp).use R4 (S2.mono (e3.trans e4).le) ee fun m5 H5 vz e5 R5 r5 => ?_
                  obtain ⟨hDa5, nD5⟩ := e5.out D nD4 _ hDa4
                  dsimp only at h
                  split at h
                  · exact h.elim
                  · rename_i dk hdk
                    split at h
                    · rename_i hz
                      obtain ⟨ky, ek1, ev⟩ := toDK_ok hdk r4
                      subst ek1 ev
                      have e15 : Ext m1 H1 m5 H5 := e12.trans (e3.trans (e4.trans e5))
                      have le : Le (G.hide D).hid m5 H5 m5 (upd H5 D (.dK (putK kv ky vz))) := Le.hid List.mem_cons_self
                      have ry5 : RKs (G.hide D) m5 H5 ys (kv.map fun p => (DK.k p.1, p.2)) := RKs.mono (e2.trans (e3.trans (e4.trans e5))).le ry
                      have hl2 : kv.length < sizeLine := by
                        have := ry5.length
                        rw [List.length_map] at this
                        omega
                      refine ⟨kv, ky, rfl, hDa5, hl2, m5, L5, dput ys (.k ky) z, putK kv ky vz, ?_, R5.whid List.mem_cons_self (fun a q => by rw [hDa5] at q; cases q), (S.mono (e2.trans (e3.trans (e4.trans e5))).le).mono le, upd_same, RKs.mono le (RKs.put ky ry5 r5), h⟩
                      refine ⟨e15.pre, fun b hb o q => ?_, fun b o u q => ?_⟩
                      · have ne : b ≠ D := fun z => by rw [z, hD] at q; cases q
                        rw [upd_ne ne]
                        exact e15.out b hb o q
                      · have ne : b ≠ D := fun z => by rw [z, hD] at q; cases q
                        rw [upd_ne ne]
                        exact e15.frz b o u q
                    · exact h.elim
          match ifs, hI with
          | [], hI =>
            have ef : ft = yesT := hI (D :: G.hid) s0 H0 C cl fp
            exact go Ext.refl R2 (by rw [ef]; rfl)
          | c :: r, hI =>
            intro s0 H0 C cl fp
            cases et : ft cb s1 L with
            | fail => rw [et] at h; exact h.elim
            | ok b L3 => exact ST.use (hI (D :: G.hid) s0 H0 C cl fp) R2 S2 et fun m3 H3 e3 R3 => go e3 R3 et
def dcX (w : Src) (t : Tg) (ft : LT) (fk fe : LE) (own : List Nat) (mu : Bool) (cb : CB) (s : Sl) (L : List LO) : Res LV := (dcW w.get t ft fk fe cb (wipeL s own) w.fuel 0 [] L).bind fun ys L2 => newD mu ys L2
def dcE (src : LSrc) (t : Tg) (ft : LT) (fk fe : LE) (own : List Nat) (mu : Bool) : LE := fun cb s L => (src cb s L).bind fun w L1 => dcX w t ft fk fe own mu cb s L1
theorem dc_read {scope : Scope} {tg kx vx iter : Expr} {ifs : List Expr} {own : List (Str × Nat)} {t : Tg} {ft : LT} {fk fe : LE} {src : LSrc} {mu : Bool} (B : BkOk G cb X scope tg ifs own t ft)
    (hi : SI G cb X tg iter src) (hKx : ∀ F s0 H0 C cl fp, SE (G.at F) cb (bk X scope s0 H0 C cl fp) kx fk) (hE : ∀ F s0 H0 C cl fp, SE (G.at F) cb (bk X scope s0 H0 C cl fp) vx fe) {Q : VK} (R : Rep G m L H) (S : RS G m H s σ) (h : PostE G m H (dcE src t ft fk fe (own.map (·.2)) mu cb s L) Q) :
    tDc (WI X tg iter) (BG X scope tg) (BTs X scope ifs) (BE X scope kx) (BE X scope vx) (own.map (·.2)) σ H Q := by
  unfold dcE at h
  cases ew : src cb s L with
  | fail => rw [ew] at h; exact h.elim
  | ok w L1 =>
    rw [ew, Res.bind_ok] at h
    exact hi m L s H σ w L1 _ R S ew fun m1 H1 J e1 R1 I => dc_ok (mu := mu) I B.tgt B.ifs hKx hE B.own R1 (S.mono e1.le) (h.at e1)
theorem se_dc {scope : Scope} {tg kx vx iter : Expr} {ifs : List Expr} {own : List (Str × Nat)} {t : Tg} {ft : LT} {fk fe : LE} {src : LSrc} {mu : Bool} {pos : Pos} (hc : X.calm = true) (hN : X.N.Nodup) (B : BkOk G cb X scope tg ifs own t ft)
    (hi : SI G cb X tg iter src) (hKx : ∀ F s0 H0 C cl fp, SE (G.at F) cb (bk X scope s0 H0 C cl fp) kx fk) (hE : ∀ F s0 H0 C cl fp, SE (G.at F) cb (bk X scope s0 H0 C cl fp) vx fe) (hs : plainS iter = true) : SE G cb X (.DictComp kx vx [⟨tg, iter, ifs, 0⟩] scope pos) (dcE src t ft fk fe (own.map (·.2)) mu) := fun m L s H σ Q R S h =>
  PE.we (pe_dc hc hN (WI.pi X tg iter) B.ok (fun s0 H0 C cl fp => BG.pg s0 H0 C cl fp) (fun s0 H0 C cl fp => BTs.pts B.few s0 H0 C cl fp) (fun s0 H0 C cl fp => BE.pe s0 H0 C cl fp) (fun s0 H0 C cl fp => BE.pe s0 H0 C cl fp) (folded_of hs)) (dc_read B hi hKx hE R S h)
def dcN (i : Nat) (t : Tg) (ft : LT) (fk fe : LE) (own : List Nat) (mu : Bool) : LE := fun cb s L => overN i (fun w s L => dcX w t ft fk fe own mu cb s L) (fun s L => dcE (valS (varE i)) t ft fk fe own mu cb s L) s L
theorem se_dcN {i : Nat} {x : Str} {xp : Pos} {scope : Scope} {tg kx vx : Expr} {ifs : List Expr} {own : List (Str × Nat)} {t : Tg} {ft : LT} {fk fe : LE} {mu : Bool} {pos : Pos} (hNi : X.N[i]? = some x) (hv : Vis X.env.scope x) (hd : (x == ("__debug__" : Str)) = false) (hcd : (x == ("__classdict__" : Str)) = false)
    (hK : X.K = G.K) (hc : X.calm = true) (hN : X.N.Nodup) (B : BkOk G cb X scope tg ifs own t ft) (hKx : ∀ F s0 H0 C cl fp, SE (G.at F) cb (bk X scope s0 H0 C cl fp) kx fk) (hE : ∀ F s0 H0 C cl fp, SE (G.at F) cb (bk X scope s0 H0 C cl fp) vx fe) :
    SE G cb X (.DictComp kx vx [⟨tg, .Name x xp, ifs, 0⟩] scope pos) (dcN i t ft fk fe (own.map (·.2)) mu) := by
  intro m L s H σ Q R S h
  have pf := pe_dc (pos := pos) hc hN (pi_keys (tg := tg) (pe_var (pos := xp) hNi hv hd hcd)) B.ok (fun s0 H0 C cl fp => BG.pg s0 H0 C cl fp) (fun s0 H0 C cl fp => BTs.pts B.few s0 H0 C cl fp) (fun s0 H0 C cl fp => BE.pe (e := kx) s0 H0 C cl fp) (fun s0 H0 C cl fp => BE.pe (e := vx) s0 H0 C cl fp) (folded_of rfl)
  refine overN_ok (fun q => PE.we pf q) (fun d u h mu q => PE.we (pe_lock pf) ⟨d, u, h, mu, q⟩) R S h
    (fun h => se_dc hc hN B (si_val hK (se_var hNi hv hd hcd)) hKx hE rfl m L s H σ Q R S h) fun hs hd r R S h => ?_
  exact ⟨_, hs, _, _, rfl, .inl ⟨_, hd, dc_ok (w := seqG _) (mu := mu) ⟨it_keys hd r, fun D hD => it_keys hd (RKs.gm (Gm.hide hD) r)⟩ B.tgt B.ifs hKx hE B.own R S h⟩⟩
/-- name = {..} on one line, the name a local -/
theorem ps_setDc {i : Nat} {y : Str} {py : Pos} {kx vx tg iter : Expr} {ifs : List Expr} {scope : Scope} {own : List (Str × Nat)} {pos spos : Pos} {wi : TI} {g : TG} {tt : TT} {tk tv : TE} (hc : X.calm = true) (hN : X.N.Nodup) (hy : X.N[i]? = some y) (hyl : X.env.scope.names.lookup y = some .local)
    (hsw : swapsWith (.DictComp kx vx [⟨tg, iter, ifs, 0⟩] scope pos) (some (.Name y py)) spos.line X.env = pure true) (hi : PI X tg iter wi) (ok : BlkOk X.N X.env.scope scope own)
    (hg : ∀ (s : Shared) (H : Hp) (C : Addr) (cl : List (Str × Addr)) (fp : List Addr), PG (X.blk s H scope (compEnvC scope cl C X.env) fp) tg g) (ht : ∀ (s : Shared) (H : Hp) (C : Addr) (cl : List (Str × Addr)) (fp : List Addr), PTs (X.blk s H scope (compEnvC scope cl C X.env) fp) ifs tt)
    (hk : ∀ (s : Shared) (H : Hp) (C : Addr) (cl : List (Str × Addr)) (fp : List Addr), PE (X.blk s H scope (compEnvC scope cl C X.env) fp) kx tk)
    (he : ∀ (s : Shared) (H : Hp) (C : Addr) (cl : List (Str × Addr)) (fp : List Addr), PE (X.blk s H scope (compEnvC scope cl C X.env) fp) vx tv) (hs : ∀ x, foldedSetIterable iter X.env x = pure x) :
    PS X (.Assign [.Name y py] (.DictComp kx vx [⟨tg, iter, ifs, 0⟩] scope pos) spos) (tAsg (tDc wi g tt tk tv (own.map (·.2))) (gName i)) := by
  refine ⟨fun pins s σ H D I h => ?_⟩
  rw [exec_Assign_Name_used _ _ _ _ hsw]
  refine wpAny_bind (wpAny_standAt (wpAny_bind ?_))
  show wpAny _ X.A (do let _ ← comprehension (.DictComp kx vx [⟨tg, iter, ifs, 0⟩] scope pos) scope X.env (firstIterPos [⟨tg, iter, ifs, 0⟩] pos) newDict false (eval iter X.env) (some (assign (.Name y py) X.env))) _ _ s
  have h : tDc wi g tt tk tv (own.map (·.2)) σ H (fun x H1 => gName i x σ H1 D.nx) := h
  refine wpAny_bind (thn (dc_core (Qf := fun _ s' => L2.SP X pins D .next s') hc hN I hi ok hg ht hk he hs h fun L C s' m H' I' q hn f => ?_) fun _ s' hq => wpAny_pure (wpAny_pure hq))
  show wpAny _ _ (assign (.Name y py) X.env (.ref L)) _ _ _
  refine wpAny_assign_Name (store_ok2 (v := V.ref L) I' hN hy (.inl hyl) rfl (fun s2 I2 ⟨a, sb, ha⟩ => ?_) (.inr hyl))
  obtain ⟨f0, f1, f2, f3, f4, f5⟩ := f
  have haC : C ≠ a := by
    rcases ha with z | z
    · rw [z]; exact f1
    · exact fun e => f4 y a z e.symm
  refine ⟨m, hn.sameBut sb haC, fun h3 sb3 => ?_⟩
  exact ⟨_, H', I2.turned (t' := s2.toks) (fun b o hb e => (sb3.2 b hb).trans e) f0 f1 f3 f4 f5, q⟩
theorem ss_setDc {i : Nat} {y : Str} {py : Pos} {scope : Scope} {tg kx vx iter : Expr} {ifs : List Expr} {own : List (Str × Nat)} {t : Tg} {ft : LT} {fk fe : LE} {src : LSrc} {mu : Bool} {pos spos : Pos} (hc : X.calm = true) (hN : X.N.Nodup) (hy : X.N[i]? = some y) (hyl : X.env.scope.names.lookup y = some .local)
    (hsw : swapsWith (.DictComp kx vx [⟨tg, iter, ifs, 0⟩] scope pos) (some (.Name y py)) spos.line X.env = pure true) (B : BkOk G cb X scope tg ifs own t ft)
    (hi : SI G cb X tg iter src) (hKx : ∀ F s0 H0 C cl fp, SE (G.at F) cb (bk X scope s0 H0 C cl fp) kx fk) (hE : ∀ F s0 H0 C cl fp, SE (G.at F) cb (bk X scope s0 H0 C cl fp) vx fe) (hs : plainS iter = true) :
    SS G cb X (.Assign [.Name y py] (.DictComp kx vx [⟨tg, iter, ifs, 0⟩] scope pos) spos) (asgN i (dcE src t ft fk fe (own.map (·.2)) mu)) := fun m L s H σ D R S h =>
  PS.ws (ps_setDc hc hN hy hyl hsw (WI.pi X tg iter) B.ok (fun s0 H0 C cl fp => BG.pg s0 H0 C cl fp) (fun s0 H0 C cl fp => BTs.pts B.few s0 H0 C cl fp) (fun s0 H0 C cl fp => BE.pe s0 H0 C cl fp) (fun s0 H0 C cl fp => BE.pe s0 H0 C cl fp) (folded_of hs)) (dc_read B hi hKx hE R S (asg_post S h))
theorem ss_setDcN {i : Nat} {y : Str} {py : Pos} {k : Nat} {x : Str} {xp : Pos} {scope : Scope} {tg kx vx : Expr} {ifs : List Expr} {own : List (Str × Nat)} {t : Tg} {ft : LT} {fk fe : LE} {mu : Bool} {pos spos : Pos} (hc : X.calm = true) (hN : X.N.Nodup) (hy : X.N[i]? = some y) (hyl : X.env.scope.names.lookup y = some .local)
    (hsw : swapsWith (.DictComp kx vx [⟨tg, .Name x xp, ifs, 0⟩] scope pos) (some (.Name y py)) spos.line X.env = pure true) (hNi : X.N[k]? = some x) (hv : Vis X.env.scope x) (hd : (x == ("__debug__" : Str)) = false) (hcd : (x == ("__classdict__" : Str)) = false)
    (hK : X.K = G.K) (B : BkOk G cb X scope tg ifs own t ft) (hKx : ∀ F s0 H0 C cl fp, SE (G.at F) cb (bk X scope s0 H0 C cl fp) kx fk) (hE : ∀ F s0 H0 C cl fp, SE (G.at F) cb (bk X scope s0 H0 C cl fp) vx fe) :
    SS G cb X (.Assign [.Name y py] (.DictComp kx vx [⟨tg, .Name x xp, ifs, 0⟩] scope pos) spos) (asgN i (dcN k t ft fk fe (own.map (·.2)) mu)) := by
  intro m L s H σ D R S h
  have pf := ps_setDc hc hN hy hyl hsw (pi_keys (tg := tg) (pe_var (pos := xp) hNi hv hd hcd)) B.ok (fun s0 H0 C cl fp => BG.pg s0 H0 C cl fp) (fun s0 H0 C cl fp => BTs.pts B.few s0 H0 C cl fp) (fun s0 H0 C cl fp => BE.pe (e := kx) s0 H0 C cl fp) (fun s0 H0 C cl fp => BE.pe (e := vx) s0 H0 C cl fp) (folded_of rfl)
  refine overN_ok (fun q => PS.ws pf q) (fun d u h mu q => PS.ws (ps_lock pf) ⟨d, u, h, mu, q⟩) R S (asg_post S h)
    (fun h2 => PS.ws (ps_setDc hc hN hy hyl hsw (WI.pi X tg _) B.ok (fun s0 H0 C cl fp => BG.pg s0 H0 C cl fp) (fun s0 H0 C cl fp => BTs.pts B.few s0 H0 C cl fp) (fun s0 H0 C cl fp => BE.pe s0 H0 C cl fp) (fun s0 H0 C cl fp => BE.pe s0 H0 C cl fp) (folded_of rfl)) (dc_read B (si_val hK (se_var hNi hv hd hcd)) hKx hE R S h2)) fun hs hd r R S h => ?_
  exact ⟨_, hs, _, _, rfl, .inl ⟨_, hd, dc_ok (w := seqG _) (mu := mu) ⟨it_keys hd r, fun D hD => it_keys hd (RKs.gm (Gm.hide hD) r)⟩ B.tgt B.ifs hKx hE B.own R S h⟩⟩
end
end Ev

set_option maxHeartbeats 4000000
/-! Ev11: statements. -/
namespace Ev
open PySem PySem.Spec PyProof.Rows L2
/-! ### when a comprehension's value is stored on the way -/
def notComp : Expr → Bool
  | .ListComp .. | .SetComp .. | .DictComp .. => false
  | _ => true
theorem sw_no {e : Expr} {t : Option Expr} {l : Nat} {env : Env} (h : notComp e = true) : swapsWith e t l env = pure false := by
  cases e <;> first | rfl | (exact absurd h (by decide)) | (cases h)
def isName : Expr → Bool
  | .Name .. => true
  | _ => false
theorem sw_tg {e t : Expr} {l : Nat} {env : Env} (h : isName t = false) : swapsWith e (some t) l env = pure false := by
  cases e <;> first | rfl | (cases t <;> first | rfl | (cases h))
/-- a comprehension is stored at the name y on the way -/
def swB (names : List (Str × NameKind)) (scope : Scope) (y : Str) (py pos : Pos) : Bool :=
  names.lookup y == some .local && py.line == pos.line && !(scope.names.any fun (n, k) => n == y && (k == .local || k == .cell))
section
variable {G : GI} {cb : CB} {X : Cx} {m : List Addr} {L : List LO} {s : Sl} {H : Hp} {σ : L2.St}
theorem sw_lc {elt : Expr} {gs : List Comprehension} {scope : Scope} {pos py : Pos} {y : Str} {l : Nat} {env : Env} (hk : env.scope.kind = .function) : swapsWith (.ListComp elt gs scope pos) (some (.Name y py)) l env = pure (swB env.scope.names scope y py pos) := by
  have hb : env.blockKind = .function := by unfold Env.blockKind; rw [hk]; rfl
  unfold swapsWith
  simp only [hb, Expr.pos]
  rfl
theorem sw_dc {kx vx : Expr} {gs : List Comprehension} {scope : Scope} {pos py : Pos} {y : Str} {l : Nat} {env : Env} (hk : env.scope.kind = .function) : swapsWith (.DictComp kx vx gs scope pos) (some (.Name y py)) l env = pure (swB env.scope.names scope y py pos) := by
  have hb : env.blockKind = .function := by unfold Env.blockKind; rw [hk]; rfl
  unfold swapsWith
  simp only [hb, Expr.pos]
  rfl
/-! ### assignments -/
theorem ss_set {i : Nat} {x : Str} {e : Expr} {f : LE} {pos' pos : Pos} (hN : X.N.Nodup) (hi : X.N[i]? = some x) (hx : Loc X.env.scope x) (hf : X.fn x = true ∨ X.env.scope.names.lookup x = some .local) (he : SE G cb X e f) (hs : swapsWith e (some (.Name x pos')) pos.line X.env = pure false) :
    SS G cb X (.Assign [.Name x pos'] e pos) (asgN i f) := fun m L s H σ D R S h =>
  PS.ws (ps_set hN hi hx (WE.pe X e) hs hf) (he m L s H σ _ R S (asg_post S h))
def asgT (t : Tg) (f : LE) : LSt := fun cb s L => (f cb s L).bind fun x L1 => match stT t x s with
  | some s' => .ok (.next, s') L1
  | none => .fail
theorem ss_asg {tg e : Expr} {t : Tg} {f : LE} {pos : Pos} (hT : SG G X tg t) (he : SE G cb X e f) (hn : isName tg = false) (hs : plainA tg = true) (hw : swappedStores [tg] e X.env = pure none) : SS G cb X (.Assign [tg] e pos) (asgT t f) := by
  intro m L s H σ D R S h
  have h1 : (assignEach [tg] X.env).map (·.2) = [assign tg X.env] := by
    cases tg <;> first | rfl | (exact absurd hs (by decide)) | (cases hs)
  refine PS.ws (ps_asg (WE.pe X e) (WG.pg X tg) (sw_tg hn) hw h1) ?_
  unfold asgT at h
  cases ef : f cb s L with
  | fail => rw [ef] at h; exact h.elim
  | ok x L1 =>
    rw [ef, Res.bind_ok] at h
    refine he.use R S ef fun m1 H1 v e1 R1 r1 => ?_
    split at h
    · rename_i s' hs'
      exact hT m1 H1 s s' σ x v _ (S.mono e1.le) r1 hs' fun σ' S' _ => h m1 H1 σ' e1 R1 S'
    · exact h.elim
/-- a, b = x, y of plain names, stored from the right -/
theorem ss_par {i j : Nat} {x y : Str} {a b : Expr} {fa fb : LE} {px py pt pos : Pos} {kt k2 pt2} (hc : X.calm = true) (hN : X.N.Nodup) (hi : X.N[i]? = some x) (hj : X.N[j]? = some y) (hij : i ≠ j)
    (hx : X.env.scope.names.lookup x = some .local) (hy : X.env.scope.names.lookup y = some .local) (ha : SE G cb X a fa) (hb : SE G cb X b fb) (hp : [a, b].all plainA = true)
    (hw : swappedStores [.Tuple [.Name x px, .Name y py] kt pt] (.Tuple [a, b] k2 pt2) X.env = pure (some [x, y])) :
    SS G cb X (.Assign [.Tuple [.Name x px, .Name y py] kt pt] (.Tuple [a, b] k2 pt2) pos) (asgT (.tp [.nm i, .nm j]) (tupE [fa, fb])) := by
  intro m L s H σ D R S h
  refine PS.ws (ps_par hc hN hi hj hij hx hy (WA.pa X [a, b]) hw) ?_
  unfold asgT tupE at h
  cases ef : argsE cb s [fa, fb] L with
  | fail => rw [ef] at h; exact h.elim
  | ok xs L1 =>
    rw [ef, Res.bind_ok, Res.bind_ok] at h
    refine args_use (.cons ha (.cons hb .nil)) hp R S ef fun m1 H1 vs e1 R1 r1 => ?_
    have hl := argsE_len ef
    match xs, hl, r1, h with
    | [p, q], _, r1, h =>
      obtain ⟨v, w, ev, rp, rq⟩ := r1.inv2
      exact ⟨v, w, ev, h m1 H1 _ e1 R1 (((S.mono e1.le).set i rp).set j rq)⟩
theorem ss_par3 {i j l : Nat} {x y z : Str} {a b c : Expr} {fa fb fc : LE} {px py pz pt pos : Pos} {kt k2 pt2} (hc : X.calm = true) (hN : X.N.Nodup) (hi : X.N[i]? = some x) (hj : X.N[j]? = some y) (hl : X.N[l]? = some z) (hij : i ≠ j) (hil : i ≠ l) (hjl : j ≠ l)
    (hx : X.env.scope.names.lookup x = some .local) (hy : X.env.scope.names.lookup y = some .local) (hz : X.env.scope.names.lookup z = some .local) (ha : SE G cb X a fa) (hb : SE G cb X b fb) (hcc : SE G cb X c fc) (hp : [a, b, c].all plainA = true)
    (hw : swappedStores [.Tuple [.Name x px, .Name y py, .Name z pz] kt pt] (.Tuple [a, b, c] k2 pt2) X.env = pure (some [x, y, z])) :
    SS G cb X (.Assign [.Tuple [.Name x px, .Name y py, .Name z pz] kt pt] (.Tuple [a, b, c] k2 pt2) pos) (asgT (.tp [.nm i, .nm j, .nm l]) (tupE [fa, fb, fc])) := by
  intro m L s H σ D R S h
  refine PS.ws (ps_par3 hc hN hi hj hl hij hil hjl hx hy hz (WA.pa X [a, b, c]) hw) ?_
  unfold asgT tupE at h
  cases ef : argsE cb s [fa, fb, fc] L with
  | fail => rw [ef] at h; exact h.elim
  | ok xs L1 =>
    rw [ef, Res.bind_ok, Res.bind_ok] at h
    refine args_use (.cons ha (.cons hb (.cons hcc .nil))) hp R S ef fun m1 H1 vs e1 R1 r1 => ?_
    have hl := argsE_len ef
    match xs, hl, r1, h with
    | [p, q, r], _, r1, h =>
      obtain ⟨u, r', ev, rp, rr⟩ := r1
      obtain ⟨v, w, ew, rq, rz⟩ := RVs.inv2 rr
      subst ew
      exact ⟨u, v, w, ev, h m1 H1 _ e1 R1 ((((S.mono e1.le).set i rp).set j rq).set l rz)⟩
/-! o[i] = v -/
def setL (o i v : LV) (L : List LO) : Res Unit := match o with
  | .ref a => match L[a]? with
    | some (.lst xs) => match i with
      | .int k => match ixN xs.length k with
        | some j => .ok () (L.set a (.lst (xs.set j v)))
        | none => .fail
      | _ => .fail
    | some (.dct kvs) => match toDK i with
      | some k => if kDict kvs = true ∧ kvs.length < sizeLine then .ok () (L.set a (.dct (dput kvs k v))) else .fail
      | none => .fail
    | _ => .fail
  | _ => .fail
def putE (fv fo fi : LE) : LSt := fun cb s L => (fv cb s L).bind fun v L1 => (fo cb s L1).bind fun o L2 => (fi cb s L2).bind fun i L3 => (setL o i v L3).bind fun _ L4 => .ok (.next, s) L4
/-- a dict of the logical heap is written -/
theorem write_dct (R : Rep G m L H) {i : Nat} {a : Addr} {u : HO} {kvs : List (DK × LV)} {kv : List (Key × V)} (hm : m[i]? = some a) (e : H a = some u) (nf : Nf u) (r : RKs G m H kvs (kv.map fun p => (DK.k p.1, p.2))) : Ext m H m (upd H a (.dK kv)) ∧ Rep G m (L.set i (.dct kvs)) (upd H a (.dK kv)) := by
  have hf : ∀ o w, H a ≠ some (.frz o w) := fun o w z => by rw [e] at z; cases z; exact nf
  have ex := Ext.write (u := .dK kv) (List.mem_of_getElem? hm) hf
  exact ⟨ex, R.write hm hf (.inl ⟨kv, upd_same, RKs.mono ex.le r⟩)⟩
theorem ss_put {o i e : Expr} {fo fi fe : LE} {pos' pos : Pos} (hK : X.K = G.K) (hu : X.A.units + 65 < cLine) (he : SE G cb X e fe) (ho : SE G cb X o fo) (hi : SE G cb X i fi) (hp : plainI i = true)
    (ha : ∀ v, assign (.Subscript o i pos') X.env v = (do
      let ov ← holding [v] (eval o X.env)
      let iv ← holding [v, ov] (eval i X.env)
      standAt pos'
      holding [v, ov, iv] (setItem ov iv v)
      release [v, ov, iv] [])) (hw : swappedStores [.Subscript o i pos'] e X.env = pure none) :
    SS G cb X (.Assign [.Subscript o i pos'] e pos) (putE fe fo fi) := by
  intro m L s H σ D R S h
  unfold putE at h
  cases ev : fe cb s L with
  | fail => rw [ev] at h; exact h.elim
  | ok v L1 =>
    rw [ev, Res.bind_ok] at h
    cases eo : fo cb s L1 with
    | fail => rw [eo] at h; exact h.elim
    | ok ov L2 =>
      rw [eo, Res.bind_ok] at h
      cases ei : fi cb s L2 with
      | fail => rw [ei] at h; exact h.elim
      | ok iv L3 =>
        rw [ei, Res.bind_ok] at h
        cases es : setL ov iv v L3 with
        | fail => rw [es] at h; exact h.elim
        | ok u L4 =>
          rw [es, Res.bind_ok] at h
          -- the three, in a row
          have row : ∀ P : V → V → V → Hp → Prop, (∀ m3 H3 vv vo vi, Ext m H m3 H3 → Rep G m3 L3 H3 → RV G m3 H3 v vv → RV G m3 H3 ov vo → RV G m3 H3 iv vi → P vv vo vi H3) →
              WE X e σ H fun vv H1 => WE X o σ H1 fun vo H2 => WE X i σ H2 fun vi H3 => P vv vo vi H3 := fun P k =>
            he.use R S ev fun m1 H1 vv e1 R1 r1 => ho.use R1 (S.mono e1.le) eo fun m2 H2 vo e2 R2 r2 => hi.use R2 (S.mono (e1.trans e2).le) ei fun m3 H3 vi e3 R3 r3 =>
              k m3 H3 vv vo vi (e1.trans (e2.trans e3)) R3 (r1.mono (e2.trans e3).le) (r2.mono e3.le) r3
          unfold setL at es
          split at es
          · rename_i a
            split at es
            · rename_i xs hx
              split at es
              · rename_i k
                split at es
                · rename_i j hj
                  cases es
                  refine PS.ws (ps_asg (WE.pe X e) (pg_sub (WE.pe X o) (WE.pe X i) set_list ha) (show swapsWithSole [.Subscript o i pos'] e pos.line X.env = pure false from sw_tg (t := .Subscript o i pos') (l := pos.line) (env := X.env) rfl) hw rfl) ?_
                  refine row (fun vv vo vi H3 => rSetL vo vi vv H3 fun H4 => D.nx σ H4) fun m3 H3 vv vo vi e3 R3 rv ro ri => ?_
                  obtain ⟨d, ed, hm⟩ := ro
                  subst ed
                  cases (show vi = _ from ri)
                  obtain ⟨vs, e4, r4⟩ := lst_at R3 hm hx
                  obtain ⟨ex, R4⟩ := write_lst R3 hm e4 (r4.set j rv)
                  exact ⟨d, vs, k, j, rfl, rfl, e4, by rw [r4.length]; exact hj, h m3 _ σ (e3.trans ex) R4 (S.mono (e3.trans ex).le)⟩
                · cases es
              · cases es
            · rename_i kvs hx
              split at es
              · rename_i k hk
                split at es
                · rename_i hkd
                  cases es
                  refine PS.ws (ps_dput (by omega) (WE.pe X o) (WE.pe X i) (WE.pe X e) (sw_tg rfl)) ?_
                  refine row (fun vv vo vi H3 => ∃ a H4, vo = .ref a ∧ DPut H3 a vi vv H4 ∧ D.nx σ H4) fun m3 H3 vv vo vi e3 R3 rv ro ri => ?_
                  obtain ⟨d, ed, hm⟩ := ro
                  subst ed
                  obtain ⟨ky, ek, ei⟩ := toDK_ok hk ri
                  subst ek ei
                  obtain ⟨b, hb, rr⟩ := R3.at hx
                  rw [hm] at hb; cases hb
                  obtain ⟨kv, rd, r⟩ := DcX.kd (show DcX (fun u => H3 d = some u) (RKs G m3 H3 kvs) from rr) hkd.1
                  obtain ⟨ex, R4⟩ := write_dct R3 hm rd trivial (RKs.put ky r rv)
                  have hl := RKs.length r
                  rw [List.length_map] at hl
                  exact ⟨d, _, rfl, .inl ⟨kv, ky, rd, rfl, by rw [hl]; exact hkd.2, rfl⟩, h m3 _ σ (e3.trans ex) R4 (S.mono (e3.trans ex).le)⟩
                · cases es
              · cases es
            · cases es
          · cases es
/-! ### the others -/
def retE (f : LE) : LSt := fun cb s L => (f cb s L).bind fun x L1 => .ok (.ret x, s) L1
theorem ss_ret {e : Expr} {f : LE} {pos : Pos} (he : SE G cb X e f) : SS G cb X (.Return (some e) pos) (retE f) := by
  intro m L s H σ D R S h
  unfold retE at h
  cases ef : f cb s L with
  | fail => rw [ef] at h; exact h.elim
  | ok x L1 =>
    rw [ef, Res.bind_ok] at h
    exact PS.ws (ps_ret (WE.pe X e)) (he.use R S ef fun m1 H1 v e1 R1 r1 => h m1 H1 σ e1 R1 (S.mono e1.le) v r1)
def retN : LSt := fun cb s L => .ok (.ret .non, s) L
theorem ss_retN {pos : Pos} : SS G cb X (.Return none pos) retN := fun m L s H σ D R S h => PS.ws ps_retN (h m H σ Ext.refl R S .non rfl)
def exprS (f : LE) : LSt := fun cb s L => (f cb s L).bind fun _ L1 => .ok (.next, s) L1
theorem ss_expr {e : Expr} {f : LE} {pos : Pos} (he : SE G cb X e f) (hn : notComp e = true) : SS G cb X (.Expr e pos) (exprS f) := by
  intro m L s H σ D R S h
  unfold exprS at h
  cases ef : f cb s L with
  | fail => rw [ef] at h; exact h.elim
  | ok x L1 =>
    rw [ef, Res.bind_ok] at h
    exact PS.ws (ps_expr (WE.pe X e) (sw_no hn)) (he.use R S ef fun m1 H1 v e1 R1 r1 => h m1 H1 σ e1 R1 (S.mono e1.le))
def passS : LSt := fun cb s L => .ok (.next, s) L
def breakS : LSt := fun cb s L => .ok (.brk, s) L
def contS : LSt := fun cb s L => .ok (.cont, s) L
theorem ss_pass {pos : Pos} : SS G cb X (.Pass pos) passS := fun m L s H σ D R S h => PS.ws ps_pass (h m H σ Ext.refl R S)
theorem ss_break {pos : Pos} : SS G cb X (.Break pos) breakS := fun m L s H σ D R S h => PS.ws ps_break (h m H σ Ext.refl R S)
theorem ss_cont {pos : Pos} : SS G cb X (.Continue pos) contS := fun m L s H σ D R S h => PS.ws ps_continue (h m H σ Ext.refl R S)
def ifS (t : LT) (f g : LSt) : LSt := fun cb s L => (t cb s L).bind fun b L1 => match b with
  | true => f cb s L1
  | false => g cb s L1
theorem ss_if {c : Expr} {a b : List Stmt} {t : LT} {f g : LSt} {pos : Pos} (hc : ST G cb X c t) (ha : SB G cb X a f) (hb : SB G cb X b g) : SS G cb X (.If c a b pos) (ifS t f g) := by
  intro m L s H σ D R S h
  unfold ifS at h
  cases ef : t cb s L with
  | fail => rw [ef] at h; exact h.elim
  | ok x L1 =>
    rw [ef, Res.bind_ok] at h
    refine PS.ws (ps_if (WT.pt X c) (WB.pss X a) (WB.pss X b)) (hc.use R S ef fun m1 H1 e1 R1 => ?_)
    cases x with
    | true => rw [if_pos rfl]; exact ha m1 L1 s H1 σ D R1 (S.mono e1.le) (h.at e1)
    | false => rw [if_neg Bool.false_ne_true]; exact hb m1 L1 s H1 σ D R1 (S.mono e1.le) (h.at e1)
/-- a block -/
def blkS : List LSt → LSt
  | [], _, s, L => .ok (.next, s) L
  | f :: r, cb, s, L => (f cb s L).bind fun fs L1 => match fs with
    | (.next, s1) => blkS r cb s1 L1
    | fs => .ok fs L1
theorem sb_nil : SB G cb X [] (blkS []) := fun m L s H σ D R S h => PSs.wb pss_nil (h m H σ Ext.refl R S)
theorem sb_cons {st : Stmt} {rest : List Stmt} {f : LSt} {fs : List LSt} (h1 : SS G cb X st f) (h2 : SB G cb X rest (blkS fs)) : SB G cb X (st :: rest) (blkS (f :: fs)) := by
  intro m L s H σ D R S h
  refine PSs.wb (pss_cons (WS.ps X st) (WB.pss X rest)) ?_
  refine h1 m L s H σ { D with nx := WB X rest D } R S ?_
  unfold blkS at h
  cases ef : f cb s L with
  | fail => rw [ef] at h; exact h.elim
  | ok x L1 =>
    rw [ef, Res.bind_ok] at h
    obtain ⟨fl, s1⟩ := x
    intro m1 H1 σ1 e1 R1 S1
    cases fl with
    | next => exact h2 m1 L1 s1 H1 σ1 D R1 S1 (h.at e1)
    | brk => exact h m1 H1 σ1 e1 R1 S1
    | cont => exact h m1 H1 σ1 e1 R1 S1
    | ret x => exact h m1 H1 σ1 e1 R1 S1
/-- while -/
def whileW (t : LT) (f : LSt) (cb : CB) : Nat → Sl → List LO → Res (Fl × Sl)
  | 0, _, _ => .fail
  | n + 1, s, L => (t cb s L).bind fun b L1 => match b with
    | false => .ok (.next, s) L1
    | true => (f cb s L1).bind fun fs L2 => match fs with
      | (.next, s2) => whileW t f cb n s2 L2
      | (.cont, s2) => whileW t f cb n s2 L2
      | (.brk, s2) => .ok (.next, s2) L2
      | (.ret v, s2) => .ok (.ret v, s2) L2
def whileS (wf : Nat) (t : LT) (f : LSt) : LSt := fun cb s L => whileW t f cb wf s L
theorem ss_while {c : Expr} {body : List Stmt} {t : LT} {f : LSt} {wf : Nat} {pos : Pos} (hp : PassesOwn (model X.prog X.w) X.A X.env X.xe) (hc : ST G cb X c t) (hb : SB G cb X body f) : SS G cb X (.While c body [] pos) (whileS wf t f) := by
  intro m L s H σ D R S h
  refine PS.ws (ps_while hp (WT.pt X c) (WB.pss X body)) ?_
  refine ⟨fun mm σ H => ∃ m L s, Rep G m L H ∧ RS G m H s σ ∧ PostS G m H (whileW t f cb mm s L) D, ⟨wf, m, L, s, R, S, h⟩, ?_⟩
  rintro mm σ H ⟨m, L, s, R, S, h⟩
  cases mm with
  | zero => exact h.elim
  | succ n =>
    unfold whileW at h
    cases et : t cb s L with
    | fail => rw [et] at h; exact h.elim
    | ok b L1 =>
      rw [et, Res.bind_ok] at h
      refine hc.use R S et fun m1 H1 e1 R1 => ?_
      cases b with
      | false => exact h m1 H1 σ e1 R1 (S.mono e1.le)
      | true =>
        refine ⟨fun σ' H' => ∃ m L s, Rep G m L H' ∧ RS G m H' s σ' ∧ PostS G m H' (whileW t f cb n s L) D, fun σ' H' hN => ⟨n, Nat.lt_succ_self n, hN⟩, ?_⟩
        refine hb m1 L1 s H1 σ _ R1 (S.mono e1.le) ?_
        cases eb : f cb s L1 with
        | fail => rw [eb] at h; exact h.elim
        | ok fs L2 =>
          rw [eb, Res.bind_ok] at h
          obtain ⟨fl, s2⟩ := fs
          intro m2 H2 σ2 e2 R2 S2
          cases fl with
          | next => exact ⟨m2, L2, s2, R2, S2, h.at (e1.trans e2)⟩
          | cont => exact ⟨m2, L2, s2, R2, S2, h.at (e1.trans e2)⟩
          | brk => exact h m2 H2 σ2 (e1.trans e2) R2 S2
          | ret x => exact h m2 H2 σ2 (e1.trans e2) R2 S2
end
end Ev

set_option maxHeartbeats 4000000
/-! Ev12: from the syntax to the combinators. -/
namespace Ev
open PySem PySem.Spec PyProof.Rows L2

/-- what is told of the program -/
structure Pr where
  /-- the module's constants -/
  consts : List (Str × LV)
  /-- the defs, with the number of their parameters -/
  funs : List (Str × Nat)
  /-- built-in names that stand for themselves -/
  blts : List Str
  /-- names that are math.gcd -/
  imps : List Str
  /-- where lists and dicts are made that are changed -/
  mt : Pos → Bool
  /-- turns of a while -/
  wf : Nat
/-- what is told of a block: its slots, its names, those that it stores -/
structure Sc where
  N : List Str
  names : List (Str × NameKind)
  st : List Str
def slotOf : List Str → Str → Option Nat
  | [], _ => none
  | y :: r, x => if x = y then some 0 else (slotOf r x).map (· + 1)
theorem slotOf_ok : ∀ {N : List Str} {x : Str} {i : Nat}, slotOf N x = some i → N[i]? = some x
  | y :: r, x, i, h => by
    unfold slotOf at h
    split at h
    · rename_i e
      cases h
      rw [e]; rfl
    · obtain ⟨j, h1, h2⟩ := Option.map_eq_some_iff.mp h
      subst h2
      exact (show r[j]? = some x from slotOf_ok h1)
def mapO {α β : Type} (f : α → Option β) : List α → Option (List β)
  | [] => some []
  | a :: r => match f a with
    | none => none
    | some b => match mapO f r with
      | none => none
      | some bs => some (b :: bs)
theorem mapO_ok {α β : Type} {f : α → Option β} {R : α → β → Prop} (h : ∀ a b, f a = some b → R a b) : ∀ {as : List α} {bs : List β}, mapO f as = some bs → Al R as bs
  | [], bs, e => by cases e; exact .nil
  | a :: r, bs, e => by
    unfold mapO at e
    split at e
    · cases e
    · rename_i b h1
      split at e
      · cases e
      · rename_i bs' h2
        cases e
        exact .cons (h a b h1) (mapO_ok h h2)
def okName (x : Str) : Bool := !(x == ("__debug__" : Str)) && !(x == ("__classdict__" : Str)) && !(x == ("__name__" : Str))
def bfTab : List (Str × Nat × BF) := [("len", 1, .len), ("int", 1, .int), ("abs", 1, .abs), ("min", 2, .min2), ("max", 2, .max2), ("isinstance", 2, .isi), ("sum", 1, .sum), ("all", 1, .all), ("any", 1, .any), ("tuple", 1, .tuple),
  ("list", 1, .list), ("sorted", 1, .sorted), ("str", 1, .str), ("dict", 1, .dict), ("ord", 1, .ord)]
theorem bfTab_ok : ∀ e ∈ bfTab, bootBuiltins e.1 = some e.2.2.val := by
  have h : (bfTab.all fun e => decide (bootBuiltins e.1 = some e.2.2.val)) = true := by decide +kernel
  exact fun e he => of_decide_eq_true (List.all_eq_true.mp h e he)
def bfOf (x : Str) (n : Nat) : Option BF := (bfTab.find? fun e => decide (e.1 = x) && decide (e.2.1 = n)).map (·.2.2)
theorem bfOf_ok {x : Str} {n : Nat} {f : BF} (h : bfOf x n = some f) : bootBuiltins x = some f.val := by
  obtain ⟨e, h1, h2⟩ := Option.map_eq_some_iff.mp h
  have h3 := List.find?_some h1
  rw [Bool.and_eq_true] at h3
  have := bfTab_ok e (List.mem_of_find?_eq_some h1)
  rw [of_decide_eq_true h3.1, h2] at this
  exact this
def tyTab : List (Str × String) := [("int", "int"), ("str", "str"), ("list", "list"), ("tuple", "tuple"), ("dict", "dict"), ("bool", "bool")]
theorem tyTab_ok : ∀ e ∈ tyTab, bootBuiltins e.1 = some (.type e.2) := by
  have h : (tyTab.all fun e => decide (bootBuiltins e.1 = some (.type e.2))) = true := by decide +kernel
  exact fun e he => of_decide_eq_true (List.all_eq_true.mp h e he)
def tyOf (x : Str) : Option String := (tyTab.find? fun e => decide (e.1 = x)).map (·.2)
theorem tyOf_ok {x : Str} {n : String} (h : tyOf x = some n) : bootBuiltins x = some (.type n) := by
  obtain ⟨e, h1, h2⟩ := Option.map_eq_some_iff.mp h
  have := tyTab_ok e (List.mem_of_find?_eq_some h1)
  have h3 := List.find?_some h1
  rw [of_decide_eq_true h3, h2] at this
  exact this

def Sc.kind (sc : Sc) (x : Str) : Option NameKind := sc.names.lookup x
def Sc.var (sc : Sc) (x : Str) : Option Nat := if okName x = true then (match sc.kind x with
  | some .local => slotOf sc.N x
  | some .cell => slotOf sc.N x
  | some .free => slotOf sc.N x
  | _ => none) else none
def Sc.glob (sc : Sc) (x : Str) : Bool := okName x && decide (sc.kind x = some .globalImplicit)
def nameE (p : Pr) (sc : Sc) (x : Str) : Option LE := match sc.var x with
  | some i => some (varE i)
  | none => if sc.glob x = true then (match p.consts.lookup x with
    | some lv => some (cE lv)
    | none => if x ∈ p.blts then (tyOf x).map fun n => cE (.ty n) else none) else none
/-- the compiled parts -/
structure Cp where
  e : Sc → Expr → Option LE
  t : Sc → Expr → Option LT
  g : Sc → Expr → Option Tg
def andTs : List LT → Option LT
  | [] => none
  | [f] => some f
  | f :: r => (andTs r).map (andT f)
def orTs : List LT → Option LT
  | [] => none
  | [f] => some f
  | f :: r => (orTs r).map (orT f)
def andEs : List LE → Option LE
  | [] => none
  | [f] => some f
  | f :: r => (andEs r).map (andE f)
def orEs : List LE → Option LE
  | [] => none
  | [f] => some f
  | f :: r => (orEs r).map (orE f)
def partO (c : Cp) (sc : Sc) : Option Expr → Option LP
  | none => some noE
  | some a => (c.e sc a).map partE
def callO (p : Pr) (c : Cp) (sc : Sc) (x : Str) (args : List Expr) (pos : Pos) : Option LE :=
  if sc.glob x = true ∧ args.all plainA = true then (match mapO (c.e sc) args with
    | none => none
    | some fs => match p.funs.lookup x with
      | some n => if args.length = n then some (callE x fs) else none
      | none => if args = [] then none else if x ∈ p.imps then some (biE .gcd false fs) else if x ∈ p.blts then (bfOf x args.length).map fun f => biE f (p.mt pos) fs else none) else none
def methO (c : Cp) (sc : Sc) (o : Expr) (m : Str) (apos : Pos) (args : List Expr) (cpos : Pos) : Option LE :=
  if baseOk o = true ∧ args.all plainA = true ∧ (apos.endLine == cpos.line) = true then (match c.e sc o, mapO (c.e sc) args with
    | some fo, some [f] => if m = "append" then some (appE fo f) else if m = "get" then some (getE fo f) else none
    | some fo, some [f, g] => if m = "get" then some (get2E fo f g) else none
    | _, _ => none) else none
def scopeOf (sc : Sc) : Scope := { kind := .function, names := sc.names, isGenerator := false, isCoroutine := false }
def ownOf (N : List Str) (scope : Scope) : List (Str × Nat) := scope.names.filterMap fun y => match y.2 with
  | .local => (slotOf N y.1).map fun i => (y.1, i)
  | .cell => (slotOf N y.1).map fun i => (y.1, i)
  | _ => none
def blkSc (sc : Sc) (scope : Scope) : Sc := ⟨sc.N, (relS scope (scopeOf sc)).names, (ownOf sc.N scope).map (·.1)⟩
/-- a comprehension's clause: its target, tests -/
def clauseO (c : Cp) (sc : Sc) (scope : Scope) (tg : Expr) (ifs : List Expr) : Option (Tg × LT) :=
  if blkC sc.N (scopeOf sc) scope (ownOf sc.N scope) = true ∧ ((ownOf sc.N scope).all fun q => decide (scope.names.lookup q.1 = some .local) || decide (scope.names.lookup q.1 = some .cell)) = true then
    (match c.g (blkSc sc scope) tg with
    | none => none
    | some t => if ((tgS t).all fun i => decide (i ∈ (ownOf sc.N scope).map (·.2))) = true then (match ifs with
      | [] => some (t, yesT)
      | [q] => (c.t (blkSc sc scope) q).map fun f => (t, f)
      | _ => none) else none) else none
def isTup : Expr → Bool
  | .Tuple _ _ _ => true
  | _ => false
theorem isTup_ok {e : Expr} (h : isTup e = true) : ∃ es k pos, e = .Tuple es k pos := by
  unfold isTup at h
  split at h
  · exact ⟨_, _, _, rfl⟩
  · cases h
/-- a name whose value is walked -/
def iterName (sc : Sc) : Expr → Option Nat
  | .Name x _ => sc.var x
  | _ => none
def srcO (p : Pr) (c : Cp) (sc : Sc) (tg iter : Expr) : Option LSrc := match iter with
  | .Call (.Name x _) [a, b] [⟨some kw, .Constant (.bool true) _ _, _⟩] _ => if x = "zip" ∧ kw = "strict" ∧ sc.glob x = true ∧ x ∈ p.blts ∧ plainA a = true ∧ plainA b = true ∧ isTup tg = true then (match c.e sc a, c.e sc b with
    | some f, some g => some (zipS f g)
    | _, _ => none) else none
  | .Call (.Name x _) [a] [] _ => if x = "range" then (if sc.glob x = true ∧ x ∈ p.blts ∧ plainA a = true then (c.e sc a).map fun f => rngS [f] else none) else
    if x = "enumerate" then (if sc.glob x = true ∧ x ∈ p.blts ∧ plainA a = true ∧ isTup tg = true then (c.e sc a).map enuS else none) else (c.e sc iter).map valS
  | .Call (.Name x _) [a, b] [] _ => if x = "range" then (if sc.glob x = true ∧ x ∈ p.blts ∧ plainA a = true ∧ plainA b = true then (match c.e sc a, c.e sc b with
    | some f, some g => some (rngS [f, g])
    | _, _ => none) else none) else (c.e sc iter).map valS
  | _ => (c.e sc iter).map valS
def lcO (p : Pr) (c : Cp) (sc : Sc) (elt tg iter : Expr) (ifs : List Expr) (scope : Scope) (pos : Pos) : Option LE := match clauseO c sc scope tg ifs, c.e (blkSc sc scope) elt with
  | some (t, ft), some fe => match iterName sc iter with
    | some i => some (lcN i t ft fe ((ownOf sc.N scope).map (·.2)) (p.mt pos))
    | none => if plainS iter = true then (srcO p c sc tg iter).map fun src => lcE src t ft fe ((ownOf sc.N scope).map (·.2)) (p.mt pos) else none
  | _, _ => none
def dcO (p : Pr) (c : Cp) (sc : Sc) (kx vx tg iter : Expr) (ifs : List Expr) (scope : Scope) (pos : Pos) : Option LE := match clauseO c sc scope tg ifs, c.e (blkSc sc scope) kx, c.e (blkSc sc scope) vx with
  | some (t, ft), some fk, some fe => match iterName sc iter with
    | some i => some (dcN i t ft fk fe ((ownOf sc.N scope).map (·.2)) (p.mt pos))
    | none => if plainS iter = true then (srcO p c sc tg iter).map fun src => dcE src t ft fk fe ((ownOf sc.N scope).map (·.2)) (p.mt pos) else none
  | _, _, _ => none
def lcG (p : Pr) (c : Cp) (sc : Sc) (elt : Expr) (gs : List Comprehension) (scope : Scope) (pos : Pos) : Option LE := match gs with
  | [g] => if g.is_async = 0 then lcO p c sc elt g.target g.iter g.ifs scope pos else none
  | _ => none
def dcG (p : Pr) (c : Cp) (sc : Sc) (kx vx : Expr) (gs : List Comprehension) (scope : Scope) (pos : Pos) : Option LE := match gs with
  | [g] => if g.is_async = 0 then dcO p c sc kx vx g.target g.iter g.ifs scope pos else none
  | _ => none
theorem lcG_inv {p : Pr} {c : Cp} {sc : Sc} {elt : Expr} {gs : List Comprehension} {scope : Scope} {pos : Pos} {f : LE} (h : lcG p c sc elt gs scope pos = some f) : ∃ tg iter ifs, gs = [⟨tg, iter, ifs, 0⟩] ∧ lcO p c sc elt tg iter ifs scope pos = some f := by
  unfold lcG at h
  split at h
  · rename_i g
    split at h
    · rename_i e
      obtain ⟨tg, iter, ifs, a⟩ := g
      have e : a = 0 := e
      subst e
      exact ⟨tg, iter, ifs, rfl, h⟩
    · cases h
  · cases h
theorem dcG_inv {p : Pr} {c : Cp} {sc : Sc} {kx vx : Expr} {gs : List Comprehension} {scope : Scope} {pos : Pos} {f : LE} (h : dcG p c sc kx vx gs scope pos = some f) : ∃ tg iter ifs, gs = [⟨tg, iter, ifs, 0⟩] ∧ dcO p c sc kx vx tg iter ifs scope pos = some f := by
  unfold dcG at h
  split at h
  · rename_i g
    split at h
    · rename_i e
      obtain ⟨tg, iter, ifs, a⟩ := g
      have e : a = 0 := e
      subst e
      exact ⟨tg, iter, ifs, rfl, h⟩
    · cases h
  · cases h
def exprO (p : Pr) (c : Cp) (sc : Sc) (e : Expr) : Option LE := match e with
  | .Name x _ => nameE p sc x
  | .Constant (.int i) _ _ => some (cE (.int i))
  | .Constant (.str i) _ _ => some (cE (.str i))
  | .Constant (.bool i) _ _ => some (cE (.bl i))
  | .Constant .none _ _ => some (cE .non)
  | .Tuple es _ _ => if es.all plainA = true ∧ es.length ≤ 1000 then (mapO (c.e sc) es).map tupE else none
  | .List es pos => if es.all plainA = true ∧ es.length ≤ 1000 then (mapO (c.e sc) es).map (lstE (p.mt pos)) else none
  | .Dict [] [] pos => some (dctE (p.mt pos))
  | .BinOp a op b pos => match c.e sc a, c.e sc b with
    | some fa, some fb => some (binE op (p.mt pos) fa fb)
    | _, _ => none
  | .UnaryOp .USub a _ => (c.e sc a).map negE
  | .UnaryOp .Not a _ => (c.e sc a).map notE
  | .Compare a [op] [b] _ => if behindInMarks op b = false then (match c.e sc a, c.e sc b with
    | some fa, some fb => some (cmpE op fa fb)
    | _, _ => none) else none
  | .Compare a [op, op'] [b, d] _ => if lastMarks [op, op'] [b, d] = false then (match c.e sc a, c.e sc b, c.e sc d with
    | some fa, some fb, some fd => some (chainE op op' fa fb fd)
    | _, _, _ => none) else none
  | .BoolOp .And vs _ => (mapO (c.e sc) vs).bind andEs
  | .BoolOp .Or vs _ => (mapO (c.e sc) vs).bind orEs
  | .IfExp t a b _ => match c.t sc t, c.e sc a, c.e sc b with
    | some ft, some fa, some fb => some (ifE ft fa fb)
    | _, _, _ => none
  | .Subscript a (.Slice lo hi none _) pos => match c.e sc a, partO c sc lo, partO c sc hi with
    | some fa, some fl, some fh => some (sliceE (p.mt pos) fa fl fh)
    | _, _, _ => none
  | .Subscript a b _ => if plainI b = true then (match c.e sc a, c.e sc b with
    | some fa, some fb => some (idxE fa fb)
    | _, _ => none) else none
  | .Call (.Name x _) args [] pos => callO p c sc x args pos
  | .Call (.Attribute o m apos) args [] cpos => methO c sc o m apos args cpos
  | .ListComp elt gs scope pos => lcG p c sc elt gs scope pos
  | .DictComp kx vx gs scope pos => dcG p c sc kx vx gs scope pos
  | _ => none
def testO (p : Pr) (c : Cp) (sc : Sc) (e : Expr) : Option LT := match e with
  | .Compare a [op] [b] _ => if behindInMarks op b = false then (match c.e sc a, c.e sc b with
    | some fa, some fb => some (testB (cmpE op fa fb))
    | _, _ => none) else none
  | .Compare a [op, op'] [b, d] _ => if lastMarks [op, op'] [b, d] = false then (match c.e sc a, c.e sc b, c.e sc d with
    | some fa, some fb, some fd => some (testB (chainE op op' fa fb fd))
    | _, _, _ => none) else none
  | .UnaryOp .Not a _ => (c.t sc a).map notT
  | .BoolOp .And vs _ => (mapO (c.t sc) vs).bind andTs
  | .BoolOp .Or vs _ => (mapO (c.t sc) vs).bind orTs
  | e => if truthOk e = true then (c.e sc e).map truE else none
def tgO (c : Cp) (sc : Sc) (e : Expr) : Option Tg := match e with
  | .Name x _ => if x ∈ sc.st then (slotOf sc.N x).map .nm else none
  | .Tuple es _ _ => if es.all plainA = true then (mapO (c.g sc) es).map .tp else none
  | _ => none
def comp (p : Pr) : Nat → Cp
  | 0 => ⟨fun _ _ => none, fun _ _ => none, fun _ _ => none⟩
  | n + 1 => ⟨exprO p (comp p n), testO p (comp p n), tgO (comp p n)⟩

/-! ### it is right -/
structure Good (G : GI) (p : Pr) (cb : CB) (k : Nat) (X : Cx) (sc : Sc) : Prop where
  K : X.K = G.K
  calm : X.calm = true
  N : X.N = sc.N
  nd : X.N.Nodup
  kind : X.env.scope.kind = .function
  names : X.env.scope.names = sc.names
  room : Room k X.A
  st : ∀ x ∈ sc.st, Loc X.env.scope x ∧ (X.fn x = true ∨ X.env.scope.names.lookup x = some .local)
  blt : ∀ x ∈ p.blts, X.mg x = none
  imp : ∀ x ∈ p.imps, X.mg x = some BF.gcd.val
  con : ∀ x lv, p.consts.lookup x = some lv → ∃ u v, X.mg x = some u ∧ RelV v u ∧ ∀ F m H, RV (G.at F) m H lv v
  fun_ : ∀ x n, p.funs.lookup x = some n → FunOk G cb X k x n
section
variable {G : GI} {p : Pr} {cb : CB} {k : Nat}
theorem okName_dbg {x : Str} (h : okName x = true) : (x == ("__debug__" : Str)) = false ∧ (x == ("__classdict__" : Str)) = false ∧ x ≠ "__name__" := by
  unfold okName at h
  simp only [Bool.and_eq_true, Bool.not_eq_true'] at h
  exact ⟨h.1.1, h.1.2, fun e => by
    have := h.2
    rw [e] at this
    simp at this⟩
theorem Good.units {X : Cx} {sc : Sc} (g : Good G p cb k X sc) : X.A.units + 65 < cLine := by have := g.room.un; omega
theorem Good.var {X : Cx} {sc : Sc} (g : Good G p cb k X sc) {x : Str} {i : Nat} (h : sc.var x = some i) : X.N[i]? = some x ∧ Vis X.env.scope x ∧ (x == ("__debug__" : Str)) = false ∧ (x == ("__classdict__" : Str)) = false := by
  unfold Sc.var at h
  split at h
  · rename_i ho
    obtain ⟨h1, h2, _⟩ := okName_dbg ho
    have nm : X.env.scope.names.lookup x = sc.kind x := by rw [g.names]; rfl
    split at h
    · rename_i hk; exact ⟨by rw [g.N]; exact slotOf_ok h, .inl (nm.trans hk), h1, h2⟩
    · rename_i hk; exact ⟨by rw [g.N]; exact slotOf_ok h, .inr (.inl (nm.trans hk)), h1, h2⟩
    · rename_i hk; exact ⟨by rw [g.N]; exact slotOf_ok h, .inr (.inr (nm.trans hk)), h1, h2⟩
    · cases h
  · cases h
theorem Good.gl {X : Cx} {sc : Sc} (g : Good G p cb k X sc) {x : Str} (h : sc.glob x = true) : Gl X x ∧ (x == ("__debug__" : Str)) = false ∧ x ≠ "__name__" := by
  unfold Sc.glob at h
  rw [Bool.and_eq_true] at h
  obtain ⟨h1, _, h3⟩ := okName_dbg h.1
  refine ⟨?_, h1, h3⟩
  show X.env.kindOf x = _
  unfold Env.kindOf
  rw [g.names]
  exact of_decide_eq_true h.2
theorem FunOk.at {X : Cx} {x : Str} {n : Nat} (F : List Addr) (h : FunOk G cb X k x n) : FunOk (G.at F) cb X k x n := h
/-- the block's context -/
theorem Good.blk {X : Cx} {sc : Sc} (g : Good G p cb k X sc) {scope : Scope} (hk : scope.kind = .function) (ho : ((ownOf sc.N scope).all fun q => decide (scope.names.lookup q.1 = some .local) || decide (scope.names.lookup q.1 = some .cell)) = true) (s0 : Shared) (H0 : Hp) (C : Addr) (cl : List (Str × Addr)) (fp : List Addr) :
    Good G p cb k (bk X scope s0 H0 C cl fp) (blkSc sc scope) := by
  have e1 : relS scope X.env.scope = relS scope (scopeOf sc) := by
    unfold relS scopeOf
    rw [g.kind, g.names]
  have e2 : (bk X scope s0 H0 C cl fp).env.scope = relS scope (scopeOf sc) := e1
  refine ⟨g.K, g.calm, g.N, g.nd, by rw [e2]; exact hk, by rw [e2]; rfl, g.room, fun x hx => ?_, g.blt, g.imp, g.con, g.fun_⟩
  obtain ⟨q, hq, eq⟩ := List.mem_map.mp (show x ∈ (ownOf sc.N scope).map (·.1) from hx)
  have hh := List.all_eq_true.mp ho q hq
  rw [Bool.or_eq_true, decide_eq_true_eq, decide_eq_true_eq, eq] at hh
  rw [e2]
  rcases hh with hh | hh
  · have := lookup_relS_keep (sc := scopeOf sc) (by decide) hh
    exact ⟨.inl this, .inr this⟩
  · have := lookup_relS_keep (sc := scopeOf sc) (by decide) hh
    refine ⟨.inr this, .inl ?_⟩
    show (scope.names.lookup x == some .cell) = true
    rw [hh]; rfl
theorem blkOk_sc {X : Cx} {sc : Sc} (g : Good G p cb k X sc) {scope : Scope} {own : List (Str × Nat)} (h : blkC sc.N (scopeOf sc) scope own = true) : BlkOk X.N X.env.scope scope own := by
  have b := blkOk_by h
  refine ⟨b.kind, b.uniq, by rw [g.N]; exact b.ix, fun y hy e => by rw [g.names]; exact b.free y hy e, fun y hy e => by rw [g.N]; exact b.own y hy e⟩

theorem andEs_ok {X : Cx} (hK : X.K = G.K) : ∀ {es : List Expr} {fs : List LE} {f : LE} {pos : Pos}, Al (SE G cb X) es fs → andEs fs = some f → SE G cb X (.BoolOp .And es pos) f
  | _, _, _, _, .nil, h => nomatch h
  | [e], [f], _, _, .cons a .nil, h => by cases h; exact se_one a
  | e :: e' :: es, f :: f' :: fs, _, _, .cons a (.cons b r), h => by
    obtain ⟨g, h1, h2⟩ := Option.map_eq_some_iff.mp h
    subst h2
    exact se_and hK a (andEs_ok hK (.cons b r) h1)
theorem orEs_ok {X : Cx} (hK : X.K = G.K) : ∀ {es : List Expr} {fs : List LE} {f : LE} {pos : Pos}, Al (SE G cb X) es fs → orEs fs = some f → SE G cb X (.BoolOp .Or es pos) f
  | _, _, _, _, .nil, h => nomatch h
  | [e], [f], _, _, .cons a .nil, h => by cases h; exact se_one a
  | e :: e' :: es, f :: f' :: fs, _, _, .cons a (.cons b r), h => by
    obtain ⟨g, h1, h2⟩ := Option.map_eq_some_iff.mp h
    subst h2
    exact se_or hK a (orEs_ok hK (.cons b r) h1)
theorem andTs_ok {X : Cx} : ∀ {es : List Expr} {fs : List LT} {f : LT} {pos : Pos}, Al (ST G cb X) es fs → andTs fs = some f → SW G cb X (.BoolOp .And es pos) f
  | _, _, _, _, .nil, h => nomatch h
  | [e], [f], _, _, .cons a .nil, h => by cases h; exact sw_one a
  | e :: e' :: es, f :: f' :: fs, _, _, .cons a (.cons b r), h => by
    obtain ⟨g, h1, h2⟩ := Option.map_eq_some_iff.mp h
    subst h2
    exact sw_and a (andTs_ok (.cons b r) h1)
theorem orTs_ok {X : Cx} : ∀ {es : List Expr} {fs : List LT} {f : LT} {pos : Pos}, Al (ST G cb X) es fs → orTs fs = some f → SW G cb X (.BoolOp .Or es pos) f
  | _, _, _, _, .nil, h => nomatch h
  | [e], [f], _, _, .cons a .nil, h => by cases h; exact sw_one a
  | e :: e' :: es, f :: f' :: fs, _, _, .cons a (.cons b r), h => by
    obtain ⟨g, h1, h2⟩ := Option.map_eq_some_iff.mp h
    subst h2
    exact sw_or a (orTs_ok (.cons b r) h1)

/-- the compiled parts are right -/
structure CpOk (G : GI) (p : Pr) (cb : CB) (k : Nat) (c : Cp) : Prop where
  e : ∀ {sc : Sc} {x : Expr} {f : LE}, c.e sc x = some f → ∀ {X : Cx} (F : List Addr), Good G p cb k X sc → SE (G.at F) cb X x f
  t : ∀ {sc : Sc} {x : Expr} {f : LT}, c.t sc x = some f → ∀ {X : Cx} (F : List Addr), Good G p cb k X sc → ST (G.at F) cb X x f
  g : ∀ {sc : Sc} {x : Expr} {f : Tg}, c.g sc x = some f → ∀ {X : Cx} (F : List Addr), Good G p cb k X sc → SG (G.at F) X x f
section
variable {c : Cp}
theorem CpOk.args (h : CpOk G p cb k c) {sc : Sc} {es : List Expr} {fs : List LE} (e : mapO (c.e sc) es = some fs) {X : Cx} (F : List Addr) (g : Good G p cb k X sc) : Al (SE (G.at F) cb X) es fs := mapO_ok (fun a b hab => h.e hab F g) e
theorem nameE_ok {sc : Sc} {x : Str} {pos : Pos} {f : LE} (h : nameE p sc x = some f) {X : Cx} (F : List Addr) (g : Good G p cb k X sc) : SE (G.at F) cb X (.Name x pos) f := by
  unfold nameE at h
  split at h
  · rename_i i hi
    cases h
    obtain ⟨h1, h2, h3, h4⟩ := g.var hi
    exact se_var h1 h2 h3 h4
  · split at h
    · rename_i hg
      obtain ⟨g1, g2, g3⟩ := g.gl hg
      split at h
      · rename_i lv hl
        cases h
        obtain ⟨u, v, hm, r, rv⟩ := g.con x lv hl
        exact se_glob g1 g2 ⟨u, v, hm, r, fun m H => rv F m H⟩
      · split at h
        · rename_i hb
          obtain ⟨n, h1, h2⟩ := Option.map_eq_some_iff.mp h
          subst h2
          exact se_ty g1 (g.blt x hb) (tyOf_ok h1) g3 g2
        · cases h
    · cases h
theorem partO_ok (h : CpOk G p cb k c) {sc : Sc} {o : Option Expr} {f : LP} (e : partO c sc o = some f) {X : Cx} (F : List Addr) (g : Good G p cb k X sc) : SP' (G := G.at F) (cb := cb) (X := X) o f := by
  cases o with
  | none => cases e; exact .inl ⟨rfl, rfl⟩
  | some a =>
    obtain ⟨fa, h1, h2⟩ := Option.map_eq_some_iff.mp e
    exact .inr ⟨a, fa, rfl, h2.symm, h.e h1 F g⟩
theorem callO_ok (h : CpOk G p cb k c) {sc : Sc} {x : Str} {args : List Expr} {q pos : Pos} {f : LE} (e : callO p c sc x args pos = some f) {X : Cx} (F : List Addr) (g : Good G p cb k X sc) : SE (G.at F) cb X (.Call (.Name x q) args [] pos) f := by
  unfold callO at e
  split at e
  · rename_i hg
    obtain ⟨g1, g2, g3⟩ := g.gl hg.1
    split at e
    · cases e
    · rename_i fs hf
      have al := h.args hf F g
      split at e
      · rename_i n hn
        split at e
        · rename_i hl
          cases e
          exact se_call ((g.fun_ x n hn).at F) g.room g1 g2 al hg.2 hl
        · cases e
      · split at e
        · cases e
        · rename_i hne
          cases args with
          | nil => exact absurd rfl hne
          | cons a as =>
            split at e
            · rename_i hi
              cases e
              exact se_bi (f := .gcd) g.K g.calm g1 (.inr ⟨g.imp x hi, rfl⟩) g3 g2 al hg.2
            · split at e
              · rename_i hb
                obtain ⟨bf, h1, h2⟩ := Option.map_eq_some_iff.mp e
                subst h2
                exact se_bi g.K g.calm g1 (.inl ⟨g.blt x hb, bfOf_ok h1⟩) g3 g2 al hg.2
              · cases e
  · cases e
theorem methO_ok (h : CpOk G p cb k c) {sc : Sc} {o : Expr} {m : Str} {apos : Pos} {args : List Expr} {cpos : Pos} {f : LE} (e : methO c sc o m apos args cpos = some f) {X : Cx} (F : List Addr) (g : Good G p cb k X sc) : SE (G.at F) cb X (.Call (.Attribute o m apos) args [] cpos) f := by
  unfold methO at e
  split at e
  · rename_i hc
    split at e
    · rename_i fo f1 ho hf
      have al := h.args hf F g
      have so := h.e ho F g
      cases al with
      | @cons a b as bs a1 ar =>
        cases ar
        have hp : plainA a = true := by simpa using hc.2.1
        split at e
        · rename_i hm
          cases e; subst hm
          exact se_app g.K so a1 hc.1 hc.2.2 hp
        · split at e
          · rename_i hm
            cases e; subst hm
            exact se_get g.units so a1 hc.1 hc.2.2 hp
          · cases e
    · rename_i fo f1 f2 ho hf
      have al := h.args hf F g
      have so := h.e ho F g
      cases al with
      | @cons a b as bs a1 ar =>
        cases ar with
        | @cons a' b' as' bs' a2 ar =>
          cases ar
          have hp : plainA a = true ∧ plainA a' = true := by simpa using hc.2.1
          split at e
          · rename_i hm
            cases e; subst hm
            exact se_get2 g.units so a1 a2 hc.1 hc.2.2 hp.1 hp.2
          · cases e
    · cases e
  · cases e
theorem clauseO_ok (h : CpOk G p cb k c) {sc : Sc} {scope : Scope} {tg : Expr} {ifs : List Expr} {t : Tg} {ft : LT} (e : clauseO c sc scope tg ifs = some (t, ft)) {X : Cx} (F : List Addr) (g : Good G p cb k X sc) :
    BkOk (G.at F) cb X scope tg ifs (ownOf sc.N scope) t ft ∧ (∀ s0 H0 C cl fp, Good G p cb k (bk X scope s0 H0 C cl fp) (blkSc sc scope)) := by
  unfold clauseO at e
  split at e
  · rename_i hb
    have ok := blkOk_sc g hb.1
    have gb := fun s0 H0 C cl fp => g.blk ok.kind hb.2 s0 H0 C cl fp
    refine ⟨?_, gb⟩
    split at e
    · cases e
    · rename_i t' ht
      split at e
      · rename_i hown
        have own : ∀ i ∈ tgS t', i ∈ (ownOf sc.N scope).map (·.2) := fun i hi => of_decide_eq_true (List.all_eq_true.mp hown i hi)
        have tgt : ∀ F' s0 H0 C cl fp, SG ((G.at F).at F') (bk X scope s0 H0 C cl fp) tg t' := fun F' s0 H0 C cl fp => h.g ht F' (gb s0 H0 C cl fp)
        split at e
        · cases e
          exact ⟨ok, tgt, by simp, fun F' s0 H0 C cl fp => rfl, own⟩
        · rename_i q
          obtain ⟨f, h1, h2⟩ := Option.map_eq_some_iff.mp e
          cases h2
          exact ⟨ok, tgt, by simp, fun F' s0 H0 C cl fp => h.t h1 F' (gb s0 H0 C cl fp), own⟩
        · cases e
      · cases e
  · cases e
theorem srcO_ok (h : CpOk G p cb k c) {sc : Sc} {tg iter : Expr} {src : LSrc} (e : srcO p c sc tg iter = some src) {X : Cx} (F : List Addr) (g : Good G p cb k X sc) : SI (G.at F) cb X tg iter src := by
  have val : ∀ {it : Expr}, (c.e sc it).map valS = some src → SI (G.at F) cb X tg it src := fun e => by
    obtain ⟨f, h1, h2⟩ := Option.map_eq_some_iff.mp e
    subst h2
    exact si_val g.K (h.e h1 F g)
  unfold srcO at e
  split at e
  · split at e
    · rename_i hc
      obtain ⟨rfl, rfl, hc⟩ := hc
      obtain ⟨es, kk, tpos, rfl⟩ := isTup_ok hc.2.2.2.2
      split at e
      · rename_i f1 f2 h1 h2
        cases e
        exact si_zip g.K (g.gl hc.1).1 (g.blt _ hc.2.1) (h.e h1 F g) (h.e h2 F g) hc.2.2.1 hc.2.2.2.1
      · cases e
    · cases e
  · split at e
    · rename_i hx
      subst hx
      split at e
      · rename_i hc
        obtain ⟨f, h1, h2⟩ := Option.map_eq_some_iff.mp e
        subst h2
        exact si_rng1 (g.gl hc.1).1 (g.blt _ hc.2.1) (h.e h1 F g) hc.2.2
      · cases e
    · split at e
      · rename_i hx
        subst hx
        split at e
        · rename_i hc
          obtain ⟨es, kk, tpos, rfl⟩ := isTup_ok hc.2.2.2
          obtain ⟨f, h1, h2⟩ := Option.map_eq_some_iff.mp e
          subst h2
          exact si_enu g.K (g.gl hc.1).1 (g.blt _ hc.2.1) (h.e h1 F g) hc.2.2.1
        · cases e
      · exact val e
  · split at e
    · rename_i hx
      subst hx
      split at e
      · rename_i hc
        split at e
        · rename_i f1 f2 h1 h2
          cases e
          exact si_rng2 (g.gl hc.1).1 (g.blt _ hc.2.1) (h.e h1 F g) (h.e h2 F g) hc.2.2.1 hc.2.2.2
        · cases e
      · cases e
    · exact val e
  · exact val e
theorem iterName_ok {sc : Sc} {iter : Expr} {i : Nat} (h : iterName sc iter = some i) : ∃ x xp, iter = .Name x xp ∧ sc.var x = some i := by
  unfold iterName at h
  split at h
  · exact ⟨_, _, rfl, h⟩
  · cases h
theorem lcO_ok (h : CpOk G p cb k c) {sc : Sc} {elt tg iter : Expr} {ifs : List Expr} {scope : Scope} {pos : Pos} {f : LE} (e : lcO p c sc elt tg iter ifs scope pos = some f) {X : Cx} (F : List Addr) (g : Good G p cb k X sc) : SE (G.at F) cb X (.ListComp elt [⟨tg, iter, ifs, 0⟩] scope pos) f := by
  unfold lcO at e
  split at e
  · rename_i t ft fe hc he
    obtain ⟨B, gb⟩ := clauseO_ok h hc F g
    have hE : ∀ F' s0 H0 C cl fp, SE ((G.at F).at F') cb (bk X scope s0 H0 C cl fp) elt fe := fun F' s0 H0 C cl fp => h.e he F' (gb s0 H0 C cl fp)
    split at e
    · rename_i i hi
      cases e
      obtain ⟨x, xp, rfl, hv⟩ := iterName_ok hi
      obtain ⟨h1, h2, h3, h4⟩ := g.var hv
      exact se_lcN h1 h2 h3 h4 g.K g.calm g.nd B hE
    · split at e
      · rename_i hs
        obtain ⟨src, h1, h2⟩ := Option.map_eq_some_iff.mp e
        subst h2
        exact se_lc g.calm g.nd B (srcO_ok h h1 F g) hE hs
      · cases e
  · cases e
theorem dcO_ok (h : CpOk G p cb k c) {sc : Sc} {kx vx tg iter : Expr} {ifs : List Expr} {scope : Scope} {pos : Pos} {f : LE} (e : dcO p c sc kx vx tg iter ifs scope pos = some f) {X : Cx} (F : List Addr) (g : Good G p cb k X sc) : SE (G.at F) cb X (.DictComp kx vx [⟨tg, iter, ifs, 0⟩] scope pos) f := by
  unfold dcO at e
  split at e
  · rename_i t ft fk fe hc hk he
    obtain ⟨B, gb⟩ := clauseO_ok h hc F g
    have hKx : ∀ F' s0 H0 C cl fp, SE ((G.at F).at F') cb (bk X scope s0 H0 C cl fp) kx fk := fun F' s0 H0 C cl fp => h.e hk F' (gb s0 H0 C cl fp)
    have hE : ∀ F' s0 H0 C cl fp, SE ((G.at F).at F') cb (bk X scope s0 H0 C cl fp) vx fe := fun F' s0 H0 C cl fp => h.e he F' (gb s0 H0 C cl fp)
    split at e
    · rename_i i hi
      cases e
      obtain ⟨x, xp, rfl, hv⟩ := iterName_ok hi
      obtain ⟨h1, h2, h3, h4⟩ := g.var hv
      exact se_dcN h1 h2 h3 h4 g.K g.calm g.nd B hKx hE
    · split at e
      · rename_i hs
        obtain ⟨src, h1, h2⟩ := Option.map_eq_some_iff.mp e
        subst h2
        exact se_dc g.calm g.nd B (srcO_ok h h1 F g) hKx hE hs
      · cases e
  · cases e
theorem exprO_ok (h : CpOk G p cb k c) {sc : Sc} {x : Expr} {f : LE} (e : exprO p c sc x = some f) {X : Cx} (F : List Addr) (g : Good G p cb k X sc) : SE (G.at F) cb X x f := by
  unfold exprO at e
  split at e
  · exact nameE_ok e F g
  · cases e; exact se_int
  · cases e; exact se_str
  · cases e; exact se_bl
  · cases e; exact se_non
  · split at e
    · rename_i hc
      obtain ⟨fs, h1, h2⟩ := Option.map_eq_some_iff.mp e
      subst h2
      exact se_tup (h.args h1 F g) hc.1 hc.2
    · cases e
  · split at e
    · rename_i hc
      obtain ⟨fs, h1, h2⟩ := Option.map_eq_some_iff.mp e
      subst h2
      exact se_lst (h.args h1 F g) hc.1 hc.2
    · cases e
  · cases e; exact se_dct
  · split at e
    · rename_i fa fb h1 h2
      cases e
      exact se_bin g.K (h.e h1 F g) (h.e h2 F g)
    · cases e
  · obtain ⟨fa, h1, h2⟩ := Option.map_eq_some_iff.mp e
    subst h2
    exact se_neg (h.e h1 F g)
  · obtain ⟨fa, h1, h2⟩ := Option.map_eq_some_iff.mp e
    subst h2
    exact se_not g.K (h.e h1 F g)
  · split at e
    · rename_i hm
      split at e
      · rename_i fa fb h1 h2
        cases e
        exact se_cmp g.K g.units (h.e h1 F g) (h.e h2 F g) hm
      · cases e
    · cases e
  · split at e
    · rename_i hm
      split at e
      · rename_i fa fb fd h1 h2 h3
        cases e
        exact se_chain g.K g.units (h.e h1 F g) (h.e h2 F g) (h.e h3 F g) hm
      · cases e
    · cases e
  · obtain ⟨fs, h1, h2⟩ := Option.bind_eq_some_iff.mp e
    exact andEs_ok (G := G.at F) g.K (h.args h1 F g) h2
  · obtain ⟨fs, h1, h2⟩ := Option.bind_eq_some_iff.mp e
    exact orEs_ok (G := G.at F) g.K (h.args h1 F g) h2
  · split at e
    · rename_i ft fa fb h1 h2 h3
      cases e
      exact se_if (h.t h1 F g) (h.e h2 F g) (h.e h3 F g)
    · cases e
  · split at e
    · rename_i fa fl fh h1 h2 h3
      cases e
      exact se_slice g.K (h.e h1 F g) (partO_ok h h2 F g) (partO_ok h h3 F g)
    · cases e
  · split at e
    · rename_i hp
      split at e
      · rename_i fa fb h1 h2
        cases e
        exact se_idx g.K g.units (h.e h1 F g) (h.e h2 F g) hp
      · cases e
    · cases e
  · exact callO_ok h e F g
  · exact methO_ok h e F g
  · obtain ⟨tg, iter, ifs, rfl, e⟩ := lcG_inv e
    exact lcO_ok h e F g
  · obtain ⟨tg, iter, ifs, rfl, e⟩ := dcG_inv e
    exact dcO_ok h e F g
  · cases e
theorem testO_ok (h : CpOk G p cb k c) {sc : Sc} {x : Expr} {f : LT} (e : testO p c sc x = some f) {X : Cx} (F : List Addr) (g : Good G p cb k X sc) : ST (G.at F) cb X x f := by
  unfold testO at e
  split at e
  · split at e
    · rename_i hm
      split at e
      · rename_i fa fb h1 h2
        cases e
        exact st_cmp g.K g.units (h.e h1 F g) (h.e h2 F g) hm
      · cases e
    · cases e
  · split at e
    · rename_i hm
      split at e
      · rename_i fa fb fd h1 h2 h3
        cases e
        exact st_chain g.K g.units (h.e h1 F g) (h.e h2 F g) (h.e h3 F g) hm
      · cases e
    · cases e
  · obtain ⟨fa, h1, h2⟩ := Option.map_eq_some_iff.mp e
    subst h2
    exact st_not (h.t h1 F g)
  · obtain ⟨fs, h1, h2⟩ := Option.bind_eq_some_iff.mp e
    exact st_sw (andTs_ok (mapO_ok (fun a b hab => h.t hab F g) h1) h2)
  · obtain ⟨fs, h1, h2⟩ := Option.bind_eq_some_iff.mp e
    exact st_sw (orTs_ok (mapO_ok (fun a b hab => h.t hab F g) h1) h2)
  · split at e
    · rename_i ho
      obtain ⟨fa, h1, h2⟩ := Option.map_eq_some_iff.mp e
      subst h2
      exact st_truth g.K (h.e h1 F g) ho
    · cases e
theorem tgO_ok (h : CpOk G p cb k c) {sc : Sc} {x : Expr} {f : Tg} (e : tgO c sc x = some f) {X : Cx} (F : List Addr) (g : Good G p cb k X sc) : SG (G.at F) X x f := by
  unfold tgO at e
  split at e
  · split at e
    · rename_i hs
      obtain ⟨i, h1, h2⟩ := Option.map_eq_some_iff.mp e
      subst h2
      obtain ⟨s1, s2⟩ := g.st _ hs
      exact sg_name g.nd (by rw [g.N]; exact slotOf_ok h1) s1 s2
    · cases e
  · split at e
    · rename_i hp
      obtain ⟨ts, h1, h2⟩ := Option.map_eq_some_iff.mp e
      subst h2
      exact sg_tup g.calm g.K (mapO_ok (fun a b hab => h.g hab F g) h1) hp
    · cases e
  · cases e
end
theorem comp_ok : ∀ n, CpOk G p cb k (comp p n)
  | 0 => ⟨(fun h => by cases h), (fun h => by cases h), (fun h => by cases h)⟩
  | n + 1 => ⟨fun h _ F g => exprO_ok (comp_ok n) h F g, fun h _ F g => testO_ok (comp_ok n) h F g, fun h _ F g => tgO_ok (comp_ok n) h F g⟩
end
end Ev

set_option maxHeartbeats 4000000
/-! Ev13: statements' compiler, defs, the end of a law's row. -/
namespace Ev
open PySem PySem.Spec PyProof.Rows L2

/-- whether two or three names are stored from the right -/
def swS (names : List (Str × NameKind)) (ts vs : List Expr) : Option (Option (List Str)) :=
  if (!(ts.length == 2 || ts.length == 3) || vs.length != ts.length) = true then some none else
  if (vs.any fun | .Starred .. => true | _ => false) = true then some none else
  let line := (ts.head?.map (·.pos.line)).getD 0
  let ns := ts.filterMap fun
    | .Name id pos => if names.lookup id == some .local && pos.line == line then some id else none
    | _ => none
  if (ns.length != ts.length || ns.eraseDups.length != ns.length) = true then some none else
  if vs.all (foldedForSure 8) = true then some none else
  if vs.all (constantsAlone 8) = true then none else some (some ns)
theorem swS_ok {env : Env} {ts vs : List Expr} {k k2 : Nat} {pt pt2 : Pos} {r : Option (List Str)} (hk : env.scope.kind = .function) (h : swS env.scope.names ts vs = some r) : swappedStores [.Tuple ts k pt] (.Tuple vs k2 pt2) env = pure r := by
  have hb : (env.blockKind != ScopeKind.function) = false := by unfold Env.blockKind; rw [hk]; rfl
  unfold swS at h
  unfold swappedStores
  simp only [hb, Bool.or_false]
  split at h
  · rename_i c; cases h; exact if_pos c
  · rename_i c
    refine (if_neg c).trans ?_
    split at h
    · rename_i c; cases h; exact if_pos c
    · rename_i c
      refine (if_neg c).trans ?_
      dsimp only at h
      split at h
      · rename_i c; cases h; exact if_pos c
      · rename_i c
        refine (if_neg c).trans ?_
        split at h
        · rename_i c; cases h; exact if_pos c
        · rename_i c
          refine (if_neg c).trans ?_
          split at h
          · cases h
          · rename_i c; cases h; exact if_neg c
theorem sw_none {tg e : Expr} {env : Env} (h : match tg, e with | .Tuple .., .Tuple .. => False | .List .., .Tuple .. => False | _, _ => True) : swappedStores [tg] e env = pure none := by
  cases tg <;> first | rfl | (cases e <;> first | rfl | exact h.elim)

abbrev Cs := Sc → Stmt → Option LSt
def blkO (cs : Cs) (sc : Sc) (b : List Stmt) : Option LSt := (mapO (cs sc) b).map blkS
def isTupE : Expr → Bool
  | .Tuple .. => true
  | _ => false
def setNameO (p : Pr) (c : Cp) (sc : Sc) (y : Str) (py : Pos) (e : Expr) : Option LSt :=
  if y ∈ sc.st then (match slotOf sc.N y, c.e sc e with
    | some i, some f => some (asgN i f)
    | _, _ => none) else none
def forO (p : Pr) (c : Cp) (cs : Cs) (sc : Sc) (tg iter : Expr) (body : List Stmt) : Option LSt := match c.g sc tg, blkO cs sc body with
  | some t, some fb => match iterName sc iter with
    | some i => some (forN i t fb)
    | none => if plainS iter = true then (srcO p c sc tg iter).map fun src => forE src t fb else none
  | _, _ => none
def tupAsgO (p : Pr) (c : Cp) (sc : Sc) (ts : List Expr) (k : Nat) (pt : Pos) (e : Expr) : Option LSt := match e with
  | .Tuple vs _ _ => match swS sc.names ts vs with
    | some none => match c.g sc (.Tuple ts k pt), c.e sc e with
      | some t, some f => some (asgT t f)
      | _, _ => none
    | some (some _) => match ts, vs with
      | [.Name x _, .Name y _], [a, b] => if swS sc.names ts vs = some (some [x, y]) ∧ sc.kind x = some .local ∧ sc.kind y = some .local ∧ plainA a = true ∧ plainA b = true then (match slotOf sc.N x, slotOf sc.N y, c.e sc a, c.e sc b with
        | some i, some j, some fa, some fb => if i ≠ j then some (asgT (.tp [.nm i, .nm j]) (tupE [fa, fb])) else none
        | _, _, _, _ => none) else none
      | [.Name x _, .Name y _, .Name z _], [a, b, d] => if swS sc.names ts vs = some (some [x, y, z]) ∧ sc.kind x = some .local ∧ sc.kind y = some .local ∧ sc.kind z = some .local ∧ plainA a = true ∧ plainA b = true ∧ plainA d = true then (match slotOf sc.N x, slotOf sc.N y, slotOf sc.N z, c.e sc a, c.e sc b, c.e sc d with
        | some i, some j, some l, some fa, some fb, some fd => if i ≠ j ∧ i ≠ l ∧ j ≠ l then some (asgT (.tp [.nm i, .nm j, .nm l]) (tupE [fa, fb, fd])) else none
        | _, _, _, _, _, _ => none) else none
      | _, _ => none
    | none => none
  | e => match c.g sc (.Tuple ts k pt), c.e sc e with
    | some t, some f => some (asgT t f)
    | _, _ => none
def stmtO (p : Pr) (c : Cp) (cs : Cs) (sc : Sc) (st : Stmt) : Option LSt := match st with
  | .Assign [.Name y py] e _ => setNameO p c sc y py e
  | .Assign [.Subscript o i _] e _ => if plainI i = true then (match c.e sc e, c.e sc o, c.e sc i with
    | some fe, some fo, some fi => some (putE fe fo fi)
    | _, _, _ => none) else none
  | .Assign [.Tuple ts k pt] e _ => tupAsgO p c sc ts k pt e
  | .Return (some e) _ => (c.e sc e).map retE
  | .Return none _ => some retN
  | .Expr e _ => if notComp e = true then (c.e sc e).map exprS else none
  | .Pass _ => some passS
  | .Break _ => some breakS
  | .Continue _ => some contS
  | .If t a b _ => match c.t sc t, blkO cs sc a, blkO cs sc b with
    | some ft, some fa, some fb => some (ifS ft fa fb)
    | _, _, _ => none
  | .For tg iter body [] _ => forO p c cs sc tg iter body
  | .While t body [] _ => match c.t sc t, blkO cs sc body with
    | some ft, some fb => some (whileS p.wf ft fb)
    | _, _ => none
  | _ => none
def compS (p : Pr) (c : Cp) : Nat → Cs
  | 0 => fun _ _ => none
  | n + 1 => stmtO p c (compS p c n)

section
variable {G : GI} {p : Pr} {cb : CB} {k : Nat} {c : Cp}
theorem sb_of {X : Cx} : ∀ {b : List Stmt} {fs : List LSt}, Al (SS G cb X) b fs → SB G cb X b (blkS fs)
  | _, _, .nil => sb_nil
  | _, _, .cons a r => sb_cons a (sb_of r)
structure CsOk (G : GI) (p : Pr) (cb : CB) (k : Nat) (cs : Cs) : Prop where
  s : ∀ {sc : Sc} {x : Stmt} {f : LSt}, cs sc x = some f → ∀ {X : Cx} (F : List Addr), Good G p cb k X sc → PassesOwn (model X.prog X.w) X.A X.env X.xe → SS (G.at F) cb X x f
theorem CsOk.blk {cs : Cs} (h : CsOk G p cb k cs) {sc : Sc} {b : List Stmt} {f : LSt} (e : blkO cs sc b = some f) {X : Cx} (F : List Addr) (g : Good G p cb k X sc) (po : PassesOwn (model X.prog X.w) X.A X.env X.xe) : SB (G.at F) cb X b f := by
  obtain ⟨fs, h1, h2⟩ := Option.map_eq_some_iff.mp e
  subst h2
  exact sb_of (mapO_ok (fun a b hab => h.s hab F g po) h1)
theorem Good.slot {X : Cx} {sc : Sc} (g : Good G p cb k X sc) {x : Str} {i : Nat} (h : slotOf sc.N x = some i) : X.N[i]? = some x := by rw [g.N]; exact slotOf_ok h
theorem setNameO_ok {n : Nat} {sc : Sc} {y : Str} {py pos : Pos} {e : Expr} {f : LSt} (h : setNameO p (comp p n) sc y py e = some f) {X : Cx} (F : List Addr) (g : Good G p cb k X sc) : SS (G.at F) cb X (.Assign [.Name y py] e pos) f := by
  unfold setNameO at h
  split at h
  · rename_i hst
    obtain ⟨s1, s2⟩ := g.st _ hst
    split at h
    · rename_i i fe hi he
      cases h
      have hN := g.slot hi
      have se := (comp_ok n).e he F g
      -- a comprehension may be stored on the way
      cases n with
      | zero => cases he
      | succ n =>
        have loc : ∀ {scope : Scope} {cpos : Pos}, swB X.env.scope.names scope y py cpos = true → X.env.scope.names.lookup y = some .local := fun sw => by
          unfold swB at sw
          rw [Bool.and_eq_true, Bool.and_eq_true] at sw
          exact beq_iff_eq.mp sw.1.1
        cases e with
        | ListComp elt gs scope cpos =>
          by_cases sw : swB X.env.scope.names scope y py cpos = true
          · have hsw : swapsWith (.ListComp elt gs scope cpos) (some (.Name y py)) pos.line X.env = pure true := by rw [sw_lc g.kind, sw]
            obtain ⟨tg, iter, ifs, rfl, e⟩ := lcG_inv (show lcG p (comp p n) sc elt gs scope cpos = some fe from he)
            have h' := comp_ok (G := G) (p := p) (cb := cb) (k := k) n
            unfold lcO at e
            split at e
            · rename_i t ft fe' hc he
              obtain ⟨B, gb⟩ := clauseO_ok h' hc F g
              have hE : ∀ F' s0 H0 C cl fp, SE ((G.at F).at F') cb (bk X scope s0 H0 C cl fp) elt fe' := fun F' s0 H0 C cl fp => h'.e he F' (gb s0 H0 C cl fp)
              split at e
              · rename_i j hj
                cases e
                obtain ⟨x, xp, rfl, hv⟩ := iterName_ok hj
                obtain ⟨h1, h2, h3, h4⟩ := g.var hv
                exact ss_setLcN g.calm g.nd hN (loc sw) hsw h1 h2 h3 h4 g.K B hE
              · split at e
                · rename_i hs
                  obtain ⟨src, h1, h2⟩ := Option.map_eq_some_iff.mp e
                  subst h2
                  exact ss_setLc g.calm g.nd hN (loc sw) hsw B (srcO_ok h' h1 F g) hE hs
                · cases e
            · cases e
          · exact ss_set g.nd hN s1 s2 se (by rw [sw_lc g.kind, Bool.eq_false_iff.mpr sw])
        | DictComp kx vx gs scope cpos =>
          by_cases sw : swB X.env.scope.names scope y py cpos = true
          · have hsw : swapsWith (.DictComp kx vx gs scope cpos) (some (.Name y py)) pos.line X.env = pure true := by rw [sw_dc g.kind, sw]
            obtain ⟨tg, iter, ifs, rfl, e⟩ := dcG_inv (show dcG p (comp p n) sc kx vx gs scope cpos = some fe from he)
            have h' := comp_ok (G := G) (p := p) (cb := cb) (k := k) n
            unfold dcO at e
            split at e
            · rename_i t ft fk fe' hc hk he
              obtain ⟨B, gb⟩ := clauseO_ok h' hc F g
              have hKx : ∀ F' s0 H0 C cl fp, SE ((G.at F).at F') cb (bk X scope s0 H0 C cl fp) kx fk := fun F' s0 H0 C cl fp => h'.e hk F' (gb s0 H0 C cl fp)
              have hE : ∀ F' s0 H0 C cl fp, SE ((G.at F).at F') cb (bk X scope s0 H0 C cl fp) vx fe' := fun F' s0 H0 C cl fp => h'.e he F' (gb s0 H0 C cl fp)
              split at e
              · rename_i j hj
                cases e
                obtain ⟨x, xp, rfl, hv⟩ := iterName_ok hj
                obtain ⟨h1, h2, h3, h4⟩ := g.var hv
                exact ss_setDcN g.calm g.nd hN (loc sw) hsw h1 h2 h3 h4 g.K B hKx hE
              · split at e
                · rename_i hs
                  obtain ⟨src, h1, h2⟩ := Option.map_eq_some_iff.mp e
                  subst h2
                  exact ss_setDc g.calm g.nd hN (loc sw) hsw B (srcO_ok h' h1 F g) hKx hE hs
                · cases e
            · cases e
          · exact ss_set g.nd hN s1 s2 se (by rw [sw_dc g.kind, Bool.eq_false_iff.mpr sw])
        | SetComp elt gs scope cpos => cases he
        | _ => exact ss_set g.nd hN s1 s2 se (sw_no rfl)
    · cases h
  · cases h
theorem forO_ok {cs : Cs} (h : CpOk G p cb k c) (hs : CsOk G p cb k cs) {sc : Sc} {tg iter : Expr} {body : List Stmt} {pos : Pos} {f : LSt} (e : forO p c cs sc tg iter body = some f) {X : Cx} (F : List Addr) (g : Good G p cb k X sc) (po : PassesOwn (model X.prog X.w) X.A X.env X.xe) : SS (G.at F) cb X (.For tg iter body [] pos) f := by
  unfold forO at e
  split at e
  · rename_i t fb ht hb
    have T := h.g ht F g
    have B := hs.blk hb F g po
    split at e
    · rename_i i hi
      cases e
      obtain ⟨x, xp, rfl, hv⟩ := iterName_ok hi
      obtain ⟨h1, h2, h3, h4⟩ := g.var hv
      exact ss_forN h1 h2 h3 h4 g.K po g.calm T B
    · split at e
      · rename_i hp
        obtain ⟨src, h1, h2⟩ := Option.map_eq_some_iff.mp e
        subst h2
        exact ss_for po g.calm (srcO_ok h h1 F g) T B hp
      · cases e
  · cases e
theorem asg_sub {o i : Expr} {pos : Pos} {env : Env} (h : plainI i = true) : ∀ v, assign (.Subscript o i pos) env v = (do
      let ov ← holding [v] (eval o env)
      let iv ← holding [v, ov] (eval i env)
      standAt pos
      holding [v, ov, iv] (setItem ov iv v)
      release [v, ov, iv] []) := by
  intro v
  cases i <;> first | rfl | (exact absurd h (by decide)) | (cases h)
theorem Good.sw {X : Cx} {sc : Sc} (g : Good G p cb k X sc) {ts vs : List Expr} {kk k2 : Nat} {pt pt2 : Pos} {r : Option (List Str)} (h : swS sc.names ts vs = some r) : swappedStores [.Tuple ts kk pt] (.Tuple vs k2 pt2) X.env = pure r := swS_ok g.kind (by rw [g.names]; exact h)
theorem tupAsgO_ok (h : CpOk G p cb k c) {sc : Sc} {ts : List Expr} {kk : Nat} {pt : Pos} {e : Expr} {f : LSt} {pos : Pos} (ee : tupAsgO p c sc ts kk pt e = some f) {X : Cx} (F : List Addr) (g : Good G p cb k X sc) : SS (G.at F) cb X (.Assign [.Tuple ts kk pt] e pos) f := by
  have lk : ∀ {x : Str}, sc.kind x = some .local → X.env.scope.names.lookup x = some .local := fun hx => by rw [g.names]; exact hx
  unfold tupAsgO at ee
  split at ee
  · split at ee
    · rename_i hn
      split at ee
      · rename_i t f' ht hf
        cases ee
        exact ss_asg (h.g ht F g) (h.e hf F g) rfl rfl (g.sw hn)
      · cases ee
    · split at ee
      · split at ee
        · rename_i hc
          split at ee
          · rename_i i j fa fb hi hj ha hb
            split at ee
            · rename_i hij
              cases ee
              exact ss_par g.calm g.nd (g.slot hi) (g.slot hj) hij (lk hc.2.1) (lk hc.2.2.1) (h.e ha F g) (h.e hb F g) (by simp [hc.2.2.2.1, hc.2.2.2.2]) (g.sw hc.1)
            · cases ee
          · cases ee
        · cases ee
      · split at ee
        · rename_i hc
          split at ee
          · rename_i i j l fa fb fd hi hj hl ha hb hd
            split at ee
            · rename_i hij
              cases ee
              exact ss_par3 g.calm g.nd (g.slot hi) (g.slot hj) (g.slot hl) hij.1 hij.2.1 hij.2.2 (lk hc.2.1) (lk hc.2.2.1) (lk hc.2.2.2.1) (h.e ha F g) (h.e hb F g) (h.e hd F g) (by simp [hc.2.2.2.2.1, hc.2.2.2.2.2.1, hc.2.2.2.2.2.2]) (g.sw hc.1)
            · cases ee
          · cases ee
        · cases ee
      · cases ee
    · cases ee
  · rename_i hnt
    split at ee
    · rename_i t f' ht hf
      cases ee
      refine ss_asg (h.g ht F g) (h.e hf F g) rfl rfl (sw_none ?_)
      cases e <;> first | trivial | (exact absurd rfl (hnt _ _ _))
    · cases ee
theorem stmtO_ok {n : Nat} {cs : Cs} (hs : CsOk G p cb k cs) {sc : Sc} {st : Stmt} {f : LSt} (e : stmtO p (comp p n) cs sc st = some f) {X : Cx} (F : List Addr) (g : Good G p cb k X sc) (po : PassesOwn (model X.prog X.w) X.A X.env X.xe) : SS (G.at F) cb X st f := by
  have h := comp_ok (G := G) (p := p) (cb := cb) (k := k) n
  unfold stmtO at e
  split at e
  · exact setNameO_ok e F g
  · split at e
    · rename_i hp
      split at e
      · rename_i fe fo fi h1 h2 h3
        cases e
        exact ss_put g.K g.units (h.e h1 F g) (h.e h2 F g) (h.e h3 F g) hp (asg_sub hp) (sw_none trivial)
      · cases e
    · cases e
  · exact tupAsgO_ok h e F g
  · obtain ⟨fa, h1, h2⟩ := Option.map_eq_some_iff.mp e
    subst h2
    exact ss_ret (h.e h1 F g)
  · cases e; exact ss_retN
  · split at e
    · rename_i hn
      obtain ⟨fa, h1, h2⟩ := Option.map_eq_some_iff.mp e
      subst h2
      exact ss_expr (h.e h1 F g) hn
    · cases e
  · cases e; exact ss_pass
  · cases e; exact ss_break
  · cases e; exact ss_cont
  · split at e
    · rename_i ft fa fb h1 h2 h3
      cases e
      exact ss_if (h.t h1 F g) (hs.blk h2 F g po) (hs.blk h3 F g po)
    · cases e
  · exact forO_ok h hs e F g po
  · split at e
    · rename_i ft fb h1 h2
      cases e
      exact ss_while po (h.t h1 F g) (hs.blk h2 F g po)
    · cases e
  · cases e
theorem compS_ok (n : Nat) : ∀ j, CsOk G p cb k (compS p (comp p n) j)
  | 0 => ⟨fun h => by cases h⟩
  | j + 1 => ⟨fun h _ F g po => stmtO_ok (compS_ok n j) h F g po⟩
end
end Ev

set_option maxHeartbeats 4000000
/-! Ev14: defs; the end. -/
namespace Ev
open PySem PySem.Spec PyProof.Rows L2

/-! ### equal values, decided -/
mutual
def beqV : LV → LV → Bool
  | .non, .non => true
  | .bl a, .bl b => a == b
  | .int a, .int b => decide (a = b)
  | .str a, .str b => decide (a = b)
  | .ty a, .ty b => decide (a = b)
  | .tup a, .tup b => beqVs a b
  | .lst a, .lst b => beqVs a b
  | .dct a, .dct b => beqKs a b
  | .ref a, .ref b => decide (a = b)
  | _, _ => false
def beqVs : List LV → List LV → Bool
  | [], [] => true
  | x :: a, y :: b => beqV x y && beqVs a b
  | _, _ => false
def beqKs : List (DK × LV) → List (DK × LV) → Bool
  | [], [] => true
  | x :: a, y :: b => beqP x y && beqKs a b
  | _, _ => false
def beqP : DK × LV → DK × LV → Bool
  | (k, x), (j, y) => decide (k = j) && beqV x y
end
mutual
theorem beqV_eq : ∀ {x y : LV}, beqV x y = true → x = y
  | .non, y, h => by cases y <;> first | rfl | (simp [beqV] at h)
  | .bl a, y, h => by cases y <;> first | (simp [beqV] at h; done) | (simp [beqV] at h; rw [h])
  | .int a, y, h => by cases y <;> first | (simp [beqV] at h; done) | (simp [beqV] at h; rw [h])
  | .str a, y, h => by cases y <;> first | (simp [beqV] at h; done) | (simp [beqV] at h; rw [h])
  | .ty a, y, h => by cases y <;> first | (simp [beqV] at h; done) | (simp [beqV] at h; rw [h])
  | .ref a, y, h => by cases y <;> first | (simp [beqV] at h; done) | (simp [beqV] at h; rw [h])
  | .tup a, .tup b, h => by rw [beqVs_eq (x := a) (y := b) (by simpa [beqV] using h)]
  | .lst a, .lst b, h => by rw [beqVs_eq (x := a) (y := b) (by simpa [beqV] using h)]
  | .dct a, .dct b, h => by rw [beqKs_eq (x := a) (y := b) (by simpa [beqV] using h)]
  | .tup _, .non, h | .tup _, .bl _, h | .tup _, .int _, h | .tup _, .str _, h | .tup _, .ty _, h | .tup _, .lst _, h | .tup _, .dct _, h | .tup _, .ref _, h => by simp [beqV] at h
  | .lst _, .non, h | .lst _, .bl _, h | .lst _, .int _, h | .lst _, .str _, h | .lst _, .ty _, h | .lst _, .tup _, h | .lst _, .dct _, h | .lst _, .ref _, h => by simp [beqV] at h
  | .dct _, .non, h | .dct _, .bl _, h | .dct _, .int _, h | .dct _, .str _, h | .dct _, .ty _, h | .dct _, .tup _, h | .dct _, .lst _, h | .dct _, .ref _, h => by simp [beqV] at h
theorem beqVs_eq : ∀ {x y : List LV}, beqVs x y = true → x = y
  | [], [], _ => rfl
  | x :: a, y :: b, h => by
    simp only [beqVs, Bool.and_eq_true] at h
    rw [beqV_eq h.1, beqVs_eq h.2]
  | [], _ :: _, h => by simp [beqVs] at h
  | _ :: _, [], h => by simp [beqVs] at h
theorem beqKs_eq : ∀ {x y : List (DK × LV)}, beqKs x y = true → x = y
  | [], [], _ => rfl
  | x :: a, y :: b, h => by
    simp only [beqKs, Bool.and_eq_true] at h
    rw [beqP_eq h.1, beqKs_eq h.2]
  | [], _ :: _, h => by simp [beqKs] at h
  | _ :: _, [], h => by simp [beqKs] at h
theorem beqP_eq : ∀ {x y : DK × LV}, beqP x y = true → x = y
  | (k, x), (j, y), h => by
    simp only [beqP, Bool.and_eq_true, decide_eq_true_eq] at h
    rw [h.1, beqV_eq h.2]
end
mutual
theorem beqV_refl : ∀ x : LV, beqV x x = true
  | .non => by simp [beqV]
  | .bl a => by simp [beqV]
  | .int a => by simp [beqV]
  | .str a => by simp [beqV]
  | .ty a => by simp [beqV]
  | .ref a => by simp [beqV]
  | .tup a => by simp [beqV, beqVs_refl a]
  | .lst a => by simp [beqV, beqVs_refl a]
  | .dct a => by simp [beqV, beqKs_refl a]
theorem beqVs_refl : ∀ x : List LV, beqVs x x = true
  | [] => by simp [beqVs]
  | x :: a => by simp [beqVs, beqV_refl x, beqVs_refl a]
theorem beqKs_refl : ∀ x : List (DK × LV), beqKs x x = true
  | [] => by simp [beqKs]
  | x :: a => by simp [beqKs, beqP_refl x, beqKs_refl a]
theorem beqP_refl : ∀ x : DK × LV, beqP x x = true
  | (k, x) => by simp [beqP, beqV_refl x]
end
def beqFs : List (Str × LV) → List (Str × LV) → Bool
  | [], [] => true
  | x :: a, y :: b => decide (x.1 = y.1) && beqV x.2 y.2 && beqFs a b
  | _, _ => false
theorem beqFs_eq : ∀ {x y : List (Str × LV)}, beqFs x y = true → x = y
  | [], [], _ => rfl
  | (k, x) :: a, (j, y) :: b, h => by
    simp only [beqFs, Bool.and_eq_true, decide_eq_true_eq] at h
    rw [show k = j from h.1.1, beqV_eq h.1.2, beqFs_eq h.2]
  | [], _ :: _, h => by simp [beqFs] at h
  | _ :: _, [], h => by simp [beqFs] at h
theorem beqFs_refl : ∀ x : List (Str × LV), beqFs x x = true
  | [] => rfl
  | x :: a => by simp [beqFs, beqV_refl, beqFs_refl a]
def beqO : LO → LO → Bool
  | .lst a, .lst b => beqVs a b
  | .dct a, .dct b => beqKs a b
  | .lkd a, .lkd b => beqKs a b
  | .ins c a, .ins d b => decide (c = d) && beqFs a b
  | _, _ => false
theorem beqO_eq {x y : LO} (h : beqO x y = true) : x = y := by
  cases x <;> cases y <;> simp only [beqO, Bool.and_eq_true, decide_eq_true_eq] at h <;> first | (cases h; done) | rw [beqVs_eq h] | rw [beqKs_eq h] | rw [h.1, beqFs_eq h.2]
theorem beqO_refl (x : LO) : beqO x x = true := by
  cases x <;> simp [beqO, beqVs_refl, beqKs_refl, beqFs_refl]
/-- the first list of objects stands at the front of the second -/
def frontL : List LO → List LO → Bool
  | [], _ => true
  | x :: a, y :: b => beqO x y && frontL a b
  | _ :: _, [] => false
theorem frontL_get : ∀ {a b : List LO}, frontL a b = true → ∀ (i : Nat) (o : LO), a[i]? = some o → b[i]? = some o
  | x :: a, y :: b, h, i, o, e => by
    simp only [frontL, Bool.and_eq_true] at h
    cases i with
    | zero => rw [← beqO_eq h.1]; exact e
    | succ i => exact frontL_get h.2 i o (by simpa using e)
theorem frontL_append : ∀ (a b : List LO), frontL a (a ++ b) = true
  | [], _ => rfl
  | x :: a, b => by simp [frontL, beqO_refl, frontL_append a b]
theorem frontL_refl (a : List LO) : frontL a a = true := by
  have := frontL_append a []
  rwa [List.append_nil] at this

/-! ### what a def hands back, as a tree -/
def closeV (n : Nat) (L : List LO) : Nat → LV → Option LV
  | 0, _ => none
  | d + 1, x => match x with
    | .tup xs => (mapO (closeV n L d) xs).map .tup
    | .lst xs => (mapO (closeV n L d) xs).map .lst
    | .dct kvs => (mapO (fun q : DK × LV => (closeV n L d q.2).map fun y => (q.1, y)) kvs).map .dct
    | .ref i => if i < n then some (.ref i) else match L[i]? with
      | some (.lst xs) => (mapO (closeV n L d) xs).map .lst
      | some (.dct kvs) => (mapO (fun q : DK × LV => (closeV n L d q.2).map fun y => (q.1, y)) kvs).map .dct
      | _ => none
    | x => some x
section
variable {G : GI} {m m1 : List Addr} {L L1 : List LO} {H H1 : Hp}
mutual
theorem RV.old (pre : ∃ l, m1 = m ++ l) : ∀ {x : LV} {v u : V}, RV G m H x v → RV G m1 H1 x u → RV G m H1 x u
  | .non, _, _, _, h => h
  | .bl _, _, _, _, h => h
  | .int _, _, _, _, h => h
  | .str _, _, _, _, h => h
  | .ty _, _, _, _, h => h
  | .ref _, _, _, ⟨a, e, h⟩, ⟨b, e', h'⟩ => ⟨b, e', by
    obtain ⟨l, el⟩ := pre
    rw [el, List.getElem?_append_left (List.getElem?_eq_some_iff.mp h).1] at h'
    exact h'⟩
  | .tup xs, _, _, ⟨a, vs, e, s, r⟩, ⟨b, us, e', s', r'⟩ => ⟨b, us, e', by
    rcases s' with ⟨n, f, s⟩ | s
    · exact .inl ⟨fun z => n (by obtain ⟨l, el⟩ := pre; rw [el]; exact List.mem_append_left _ z), f, s⟩
    · exact .inr s, RVs.old pre r r'⟩
  | .lst xs, _, _, ⟨a, vs, e, s, r⟩, ⟨b, us, e', s', r'⟩ => ⟨b, us, e', by
    rcases s' with ⟨n, f, s⟩ | s
    · exact .inl ⟨fun z => n (by obtain ⟨l, el⟩ := pre; rw [el]; exact List.mem_append_left _ z), f, s⟩
    · exact .inr s, RVs.old pre r r'⟩
  | .dct kvs, _, _, ⟨a, e, n, f, d⟩, ⟨b, e', n', f', d'⟩ => by
    refine ⟨b, e', fun z => n' (by obtain ⟨l, el⟩ := pre; rw [el]; exact List.mem_append_left _ z), f', ?_⟩
    have q : ∃ w, RKs G m H kvs w := by
      rcases d with ⟨kv, _, r⟩ | ⟨kv, _, _, r⟩
      · exact ⟨_, r⟩
      · exact ⟨_, r⟩
    obtain ⟨w, q⟩ := q
    exact d'.imp (fun _ x => x) fun l h => RKs.old pre q h
theorem RVs.old (pre : ∃ l, m1 = m ++ l) : ∀ {x : List LV} {v u : List V}, RVs G m H x v → RVs G m1 H1 x u → RVs G m H1 x u
  | [], _, _, _, h => h
  | _ :: _, _, _, ⟨v, r, e, a, b⟩, ⟨v', r', e', a', b'⟩ => ⟨v', r', e', RV.old pre a a', RVs.old pre b b'⟩
theorem RKs.old (pre : ∃ l, m1 = m ++ l) : ∀ {x : List (DK × LV)} {v u : List (DK × V)}, RKs G m H x v → RKs G m1 H1 x u → RKs G m H1 x u
  | [], _, _, _, h => h
  | _ :: _, _, _, ⟨v, r, e, a, b⟩, ⟨v', r', e', a', b'⟩ => ⟨v', r', e', RP.old pre a a', RKs.old pre b b'⟩
theorem RP.old (pre : ∃ l, m1 = m ++ l) : ∀ {x : DK × LV} {v u : DK × V}, RP G m H x v → RP G m1 H1 x u → RP G m H1 x u
  | (_, _), _, _, ⟨e, r⟩, ⟨e', r'⟩ => ⟨e', RV.old pre r r'⟩
end
theorem RFs.old (pre : ∃ l, m1 = m ++ l) : ∀ {x : List (Str × LV)} {v u : List (Str × V)}, RFs G m H x v → RFs G m1 H1 x u → RFs G m H1 x u
  | [], _, _, _, h => h
  | _ :: _, _, _, ⟨v, r, e, a, b⟩, ⟨v', r', e', a', b'⟩ => ⟨v', r', e', RV.old pre a a', RFs.old pre b b'⟩
theorem RO.old (pre : ∃ l, m1 = m ++ l) {a b : Addr} {o : LO} (h : RO G m H a o) (h' : RO G m1 H1 b o) : RO G m H1 b o := by
  cases o with
  | lst xs => obtain ⟨vs, _, r⟩ := h; obtain ⟨us, e, r'⟩ := h'; exact ⟨us, e, RVs.old pre r r'⟩
  | dct kvs =>
    have q : ∃ w, RKs G m H kvs w := by
      rcases h with ⟨kv, _, r⟩ | ⟨kv, _, _, r⟩
      · exact ⟨_, r⟩
      · exact ⟨_, r⟩
    obtain ⟨w, q⟩ := q
    exact DcX.imp (show DcX (fun u => H1 b = some u) (RKs G m1 H1 kvs) from h') (fun _ x => x) fun l h => RKs.old pre q h
  | lkd kvs =>
    have q : ∃ w, RKs G m H kvs w := by
      obtain ⟨_, h⟩ := h
      rcases h with ⟨kv, _, r⟩ | ⟨kv, _, _, r⟩
      · exact ⟨_, r⟩
      · exact ⟨_, r⟩
    obtain ⟨w, q⟩ := q
    obtain ⟨o, h'⟩ := h'
    exact ⟨o, h'.imp (fun _ x => x) fun l h => RKs.old pre q h⟩
  | ins c fs =>
    obtain ⟨C, dx, fs', e, c, r, n, d⟩ := h
    obtain ⟨C', dx', fs2, e', c', r', n', d'⟩ := h'
    exact ⟨C', dx', fs2, e', c', RFs.old pre r r', fun z => n' (by obtain ⟨l, el⟩ := pre; rw [el]; exact List.mem_append_left _ z), d'⟩
/-- the new objects are forgotten -/
theorem Rep.forget (R : Rep G m L H) (R1 : Rep G m1 L1 H1) (e : Ext m H m1 H1) (f : frontL L L1 = true) : Rep G m L H1 := by
  refine ⟨R.len, R.nd, fun i a o h1 h2 => ?_, fun b hb => ?_⟩
  · exact (R.obj i a o h1 h2).old e.pre (R1.obj i a o ((e.le (F := [])).get h1) (frontL_get f i o h2))
  · obtain ⟨x, w, q⟩ := R.hid b hb
    exact ⟨x, (R1.hid b hb).2⟩
theorem Ext.forget (e : Ext m H m1 H1) : Ext m H m H1 := ⟨⟨[], by simp⟩, fun b hb o h => ⟨(e.out b hb o h).1, hb⟩, e.frz⟩
theorem closeVs_ok {d n : Nat} (hd : ∀ {x y : LV} {v : V}, closeV n L1 d x = some y → RV G m1 H1 x v → RV G m H1 y v) : ∀ {xs ys : List LV} {vs : List V}, mapO (closeV n L1 d) xs = some ys → RVs G m1 H1 xs vs → RVs G m H1 ys vs
  | [], ys, vs, h, r => by cases h; exact r
  | x :: t, ys, vs, h, ⟨v, w, e, a, b⟩ => by
    subst e
    unfold mapO at h
    split at h
    · cases h
    · rename_i y hy
      split at h
      · cases h
      · rename_i ys' hys
        cases h
        exact ⟨v, w, rfl, hd hy a, closeVs_ok hd hys b⟩
theorem closeKs_ok {d n : Nat} (hd : ∀ {x y : LV} {v : V}, closeV n L1 d x = some y → RV G m1 H1 x v → RV G m H1 y v) : ∀ {xs ys : List (DK × LV)} {vs : List (DK × V)}, mapO (fun q : DK × LV => (closeV n L1 d q.2).map fun y => (q.1, y)) xs = some ys → RKs G m1 H1 xs vs → RKs G m H1 ys vs
  | [], ys, vs, h, r => by cases h; exact r
  | (k, x) :: t, ys, vs, h, ⟨v, w, e, a, b⟩ => by
    subst e
    unfold mapO at h
    split at h
    · cases h
    · rename_i y hy
      obtain ⟨y', h1, h2⟩ := Option.map_eq_some_iff.mp hy
      subst h2
      split at h
      · cases h
      · rename_i ys' hys
        cases h
        obtain ⟨e1, r1⟩ := a
        exact ⟨v, w, rfl, ⟨e1, hd h1 r1⟩, closeKs_ok hd hys b⟩
theorem closeV_ok (R : Rep G m L H) (R1 : Rep G m1 L1 H1) (e : Ext m H m1 H1) : ∀ (d : Nat) {x y : LV} {v : V}, closeV L.length L1 d x = some y → RV G m1 H1 x v → RV G m H1 y v := by
  have nin : ∀ {a : Addr}, a ∉ m1 → a ∉ m := fun h z => h (by obtain ⟨l, el⟩ := e.pre; rw [el]; exact List.mem_append_left _ z)
  have out : ∀ {i : Nat} {a : Addr}, ¬ i < L.length → m1[i]? = some a → a ∉ m := fun {i a} hi h z => by
    obtain ⟨j, hj, ej⟩ := List.getElem_of_mem z
    have h2 : m1[j]? = some a := (e.le (F := [])).get (by rw [List.getElem?_eq_getElem hj, ej])
    obtain ⟨x1, e1⟩ := List.getElem?_eq_some_iff.mp h
    obtain ⟨x2, e2⟩ := List.getElem?_eq_some_iff.mp h2
    have := (List.getElem_inj R1.nd).mp (e1.trans e2.symm)
    rw [R.len] at hj
    omega
  intro d
  induction d with
  | zero => intro x y v h _; cases h
  | succ d ih =>
    intro x y v h r
    unfold closeV at h
    split at h
    · rename_i xs
      obtain ⟨ys, h1, h2⟩ := Option.map_eq_some_iff.mp h
      subst h2
      obtain ⟨a, vs, ev, s, r⟩ := r
      refine ⟨a, vs, ev, ?_, closeVs_ok ih h1 r⟩
      rcases s with ⟨n, f, s⟩ | s
      · exact .inl ⟨nin n, f, s⟩
      · exact .inr s
    · rename_i xs
      obtain ⟨ys, h1, h2⟩ := Option.map_eq_some_iff.mp h
      subst h2
      obtain ⟨a, vs, ev, s, r⟩ := r
      refine ⟨a, vs, ev, ?_, closeVs_ok ih h1 r⟩
      rcases s with ⟨n, f, s⟩ | s
      · exact .inl ⟨nin n, f, s⟩
      · exact .inr s
    · rename_i kvs
      obtain ⟨ys, h1, h2⟩ := Option.map_eq_some_iff.mp h
      subst h2
      obtain ⟨a, ev, n, f, dd⟩ := r
      exact ⟨a, ev, nin n, f, dd.imp (fun _ x => x) fun l h => closeKs_ok ih h1 h⟩
    · rename_i i
      obtain ⟨a, ev, hm⟩ := r
      split at h
      · rename_i hi
        cases h
        refine ⟨a, ev, ?_⟩
        obtain ⟨l, el⟩ := e.pre
        rw [el, List.getElem?_append_left (by rw [R.len]; exact hi)] at hm
        exact hm
      · rename_i hi
        have na := out hi hm
        have nf : a ∉ G.hid := fun z => (R1.hid a z).1 (List.mem_of_getElem? hm)
        split at h
        · rename_i xs hx
          obtain ⟨ys, h1, h2⟩ := Option.map_eq_some_iff.mp h
          subst h2
          obtain ⟨b, hb, vs, e2, r2⟩ := R1.at hx
          rw [hm] at hb; cases hb
          exact ⟨a, vs, ev, .inl ⟨na, nf, .inl e2⟩, closeVs_ok ih h1 r2⟩
        · rename_i kvs hx
          obtain ⟨ys, h1, h2⟩ := Option.map_eq_some_iff.mp h
          subst h2
          obtain ⟨b, hb, ro⟩ := R1.at hx
          rw [hm] at hb; cases hb
          exact ⟨a, ev, na, nf, DcX.imp (show DcX (fun u => H1 a = some u) (RKs G m1 H1 kvs) from ro) (fun _ x => .inl x) fun l h => closeKs_ok ih h1 h⟩
        · cases h
    · rename_i h1 h2 h3 h4
      cases h
      cases x <;> first | exact r | (exfalso; first | exact h1 _ rfl | exact h2 _ rfl | exact h3 _ rfl | exact h4 _ rfl)
end

/-! ### defs -/
structure FB where
  n : Nat
  frz : Bool
  body : LSt
def finB (frz : Bool) (L : List LO) (v : LV) (L1 : List LO) : Res LV := match frz with
  | false => .ok v L1
  | true => match closeV L.length L1 8 v with
    | some v' => if frontL L L1 = true then .ok v' L else .fail
    | none => .fail
def callB (fb : FB) (cb : CB) (args : List LV) (L : List LO) : Res LV := (fb.body cb (args.map some ++ List.replicate (fb.n - args.length) none) L).bind fun fs L1 => match fs with
  | (.ret v, _) => finB fb.frz L v L1
  | (.next, _) => finB fb.frz L .non L1
  | _ => .fail
def evCall (T : List (Str × FB)) : Nat → CB
  | 0 => fun _ _ _ => .fail
  | k + 1 => fun x args L => match T.lookup x with
    | some fb => callB fb (evCall T k) args L
    | none => .fail
structure Df where
  x : Str
  st : Stmt
  ps : List Str
  N : List Str
  fb : FB
def scOf (N : List Str) (scope : Scope) : Sc := ⟨N, scope.names, N.filter fun x => decide (scope.names.lookup x = some .local) || decide (scope.names.lookup x = some .cell)⟩
def dfC (p : Pr) (n : Nat) (d : Df) : Prop := blkO (compS p (comp p n) n) (scOf d.N (defScope d.st)) (defBody d.st) = some d.fb.body
structure DfOk (p : Pr) (T : List (Str × FB)) (K : PySem.W.Frag) (mg : Str → Option Value) (d : Df) : Prop where
  comp : ∃ n, dfC p n d
  sc : FnScope d.N d.ps (defScope d.st)
  n : d.fb.n = d.N.length
  T : T.lookup d.x = some d.fb
  fn : ∃ f fd, Fun K d.x d.x d.st f fd ∧ mg d.x = some (.ref f) ∧ Binds K fd d.ps []
section
variable {P : Program} {w : World} {G : GI} {mg : Str → Option Value} {base : Heap} {p : Pr} {T : List (Str × FB)}
/-- what is known of the module -/
structure ModOk (G : GI) (mg : Str → Option Value) (p : Pr) (T : List (Str × FB)) : Prop where
  blt : ∀ x ∈ p.blts, mg x = none
  imp : ∀ x ∈ p.imps, mg x = some BF.gcd.val
  con : ∀ x lv, p.consts.lookup x = some lv → ∃ u v, mg x = some u ∧ RelV v u ∧ ∀ F m H, RV (G.at F) m H lv v
  df : ∀ x n, p.funs.lookup x = some n → ∃ d : Df, d.x = x ∧ d.ps.length = n ∧ DfOk p T G.K mg d
def FnAt (P : Program) (w : World) (G : GI) (mg : Str → Option Value) (base : Heap) (cb : CB) (k : Nat) (x : Str) (n : Nat) : Prop :=
  ∃ f fd ps, mg x = some (.ref f) ∧ PySem.W.keepIn G.K (.ref f) = true ∧ ps.length = n ∧ Binds G.K fd ps [] ∧ FnOk P w G.K mg base CX0 k f fd ps (spOf G cb x n)
theorem post_fin {F : List Addr} {m : List Addr} {L : List LO} {H : Hp} {Q : VK} {r : Res (Fl × Sl)} {frz : Bool} (R : Rep (G.at F) m L H) (h : PostE (G.at F) m H (r.bind fun fs L1 => match fs with
    | (.ret v, _) => finB frz L v L1
    | (.next, _) => finB frz L .non L1
    | _ => .fail) Q) : PostS (G.at F) m H r { nx := fun _ H' => Q .non H', rt := Q } := by
  have fin : ∀ {x : LV} {L1 : List LO}, PostE (G.at F) m H (finB frz L x L1) Q → ∀ {m' : List Addr} {H' : Hp} {v : V}, Ext m H m' H' → Rep (G.at F) m' L1 H' → RV (G.at F) m' H' x v → Q v H' := fun {x L1} h {m' H' v} e R1 r => by
    unfold finB at h
    split at h
    · exact h m' H' v e R1 r
    · split at h
      · rename_i v' hv
        split at h
        · rename_i hf
          exact h m H' v e.forget (R.forget R1 e hf) (closeV_ok R R1 e 8 hv r)
        · exact h.elim
      · exact h.elim
  cases r with
  | fail => exact h
  | ok x L1 =>
    rw [Res.bind_ok] at h
    obtain ⟨f, s⟩ := x
    cases f with
    | ret v => exact fun m' H' σ e R1 S v' r => fin h e R1 r
    | next => exact fun m' H' σ e R1 S => fin h e R1 (show RV _ _ _ .non .non from rfl)
    | brk => exact h.elim
    | cont => exact h.elim
theorem fn_ok (M : ModOk G mg p T) : ∀ (k : Nat) (x : Str) (n : Nat), p.funs.lookup x = some n → FnAt P w G mg base (evCall T k) k x n
  | 0, x, n, h => by
    obtain ⟨d, rfl, hn, D⟩ := M.df x n h
    obtain ⟨f, fd, fn, hm, hb⟩ := D.fn
    refine ⟨f, fd, d.ps, hm, fn.kp, hn, hb, ⟨fun vs H Q E hs => ?_, fun A outer s H args us vs Q E hr he hbt hv hs => ?_⟩⟩
    · obtain ⟨F, m, L, as, R, r, hl, q⟩ := hs
      exact q.elim
    · obtain ⟨F, m, L, as, R, r, hl, q⟩ := hs
      exact q.elim
  | k + 1, x, n, h => by
    obtain ⟨d, rfl, hn, D⟩ := M.df x n h
    obtain ⟨f, fd, fn, hm, hb⟩ := D.fn
    obtain ⟨cn, hcomp⟩ := D.comp
    refine ⟨f, fd, d.ps, hm, fn.kp, hn, hb, ?_⟩
    refine fn.ok D.sc (fun vs H Q E hs => ?_) (fun cdv A outer s H vs Q E hr hs => ?_)
    · obtain ⟨F, m, L, as, R, r, hl, q⟩ := hs
      rw [r.length, hl, hn]
    · obtain ⟨F, m, L, as, R, r, hl, q⟩ := hs
      refine ⟨_, WB.pss _ _, ?_⟩
      have g : Good G p (evCall T k) k (cxOf CX0 P w G.K mg base d.N d.x (defScope d.st) f cdv A outer s H E).nox (scOf d.N (defScope d.st)) := by
        refine ⟨rfl, rfl, rfl, D.sc.nd, D.sc.kind, rfl, hr, fun y hy => ?_, M.blt, M.imp, M.con, fun y j hy => ?_⟩
        · have := (List.mem_filter.mp hy).2
          rw [Bool.or_eq_true, decide_eq_true_eq, decide_eq_true_eq] at this
          exact ⟨this, .inl rfl⟩
        · exact fn_ok M k y j hy
      have B := (compS_ok (G := G) (p := p) (cb := evCall T k) (k := k) cn cn).blk hcomp F g PassesOwn.never
      have q : PostE (G.at F) m H (callB d.fb (evCall T k) as L) Q := by
        have e : evCall T (k + 1) d.x as L = callB d.fb (evCall T k) as L := by
          show (match T.lookup d.x with | some fb => callB fb (evCall T k) as L | none => .fail) = _
          rw [D.T]
        rw [← e]; exact q
      refine B m L (as.map some ++ List.replicate (d.fb.n - as.length) none) H _ _ R ⟨?_, fun i y hy => ?_⟩ (post_fin R q)
      · unfold L2.start
        rw [List.length_append, List.length_append, List.length_map, List.length_map, List.length_replicate, List.length_replicate, r.length, D.n]
      · unfold L2.start
        by_cases hi : i < as.length
        · rw [List.getElem?_append_left (by simpa using hi), List.getElem?_map] at hy
          obtain ⟨z, h1, h2⟩ := Option.map_eq_some_iff.mp hy
          cases h2
          obtain ⟨v, h3, h4⟩ := r.get h1
          exact ⟨v, by rw [List.getElem?_append_left (by rw [List.length_map, r.length]; exact hi), List.getElem?_map, h3]; rfl, h4⟩
        · rw [List.getElem?_append_right (by simpa using hi)] at hy
          rw [List.getElem?_replicate] at hy
          split at hy <;> cases hy
end
/-- the law's promise, from the evaluator's answer -/
def spLaw (K : PySem.W.Frag) : Sp := fun vs H Q _ => ∃ (a : Addr) (ns : List Int), vs = [.ref a] ∧ SqL K H a (ns.map V.int) ∧ ns.length ≤ 63 ∧ (∀ z ∈ ns, Builtin.Int.intBits z ≤ 1048576) ∧ ∀ H', Q (.bl true) H'
theorem law_ok {P : Program} {w : World} {G : GI} {mg : Str → Option Value} {base : Heap} {T : List (Str × FB)} {k : Nat} {x : Str} {fd : FuncData} {ps : List Str} {f : Addr}
    (F : FnOk P w G.K mg base CX0 k f fd ps (spOf G (evCall T k) x 1))
    (law : ∀ ns : List Int, ns.length ≤ 63 → (∀ z ∈ ns, Builtin.Int.intBits z ≤ 1048576) → ∃ L, evCall T k x [.lst (ns.map .int)] [] = .ok (.bl true) L) : FnOk P w G.K mg base CX0 k f fd ps (spLaw G.K) := by
  refine F.imp fun vs H Q E h => ?_
  obtain ⟨a, ns, rfl, hs, hl, hb, q⟩ := h
  obtain ⟨L, e⟩ := law ns hl hb
  refine ⟨[], [], [], [.lst (ns.map .int)], ⟨rfl, by simp, fun i a o h => by simp at h, fun b hb => by cases hb⟩, ?_, rfl, ?_⟩
  · refine RVs.one ⟨a, ns.map V.int, rfl, ?_, RVs.ints ns⟩
    rcases hs with hs | hs
    · exact .inl ⟨by simp, (by show a ∉ ([] : List Addr); simp), hs⟩
    · exact .inr (.inr hs)
  · rw [e]
    intro m' H' v ex R r
    cases (show v = _ from r)
    exact q H'
end Ev

set_option maxHeartbeats 4000000
/-! Ev15: a law's end: facts of the top, the row. -/
namespace Ev
open PySem PySem.Spec PyProof.Rows L2
theorem fun_of {K : PySem.W.Frag} {x : Str} {st : Stmt} {f : Addr} {fd : FuncData} (F : FunD K x x (defArgs st) (defBody st) (defScope st) [] [] f fd) : Fun K x x st f fd := by
  obtain ⟨oc, od, dV, kV, doc, pm, an, cdv, ct, osl, rfl, lk, hcd, hD, hK⟩ := F.ex
  rcases hD with ⟨_, rfl⟩ | ⟨e, _⟩
  · exact ⟨⟨oc, od, kV, doc, pm, an, cdv, ct, osl, rfl, lk, hcd⟩, F.kp⟩
  · exact absurd rfl e

/-! ### constants of the module -/
def flatDv : LV → Option He.Dv
  | .non => some .non
  | .bl b => some (.bl b)
  | .int i => some (.int i)
  | .str z => some (.str z)
  | _ => none
theorem flatDv_ok {G : GI} {m : List Addr} {H : Hp} {K : PySem.W.Frag} {lv : LV} {d : He.Dv} (h : flatDv lv = some d) : RV G m H lv (d.v K) := by
  cases lv <;> simp only [flatDv] at h <;> first | (cases h; exact rfl) | (cases h)
theorem flatDvs_ok {G : GI} {m : List Addr} {H : Hp} {K : PySem.W.Frag} : ∀ {xs : List LV} {ds : List He.Dv}, mapO flatDv xs = some ds → RVs G m H xs (ds.map (He.Dv.v K))
  | [], ds, h => by cases h; exact rfl
  | x :: t, ds, h => by
    unfold mapO at h
    split at h
    · cases h
    · rename_i d hd
      split at h
      · cases h
      · rename_i ds' hds
        cases h
        exact .cons (flatDv_ok hd) (flatDvs_ok hds)
def constB (K : PySem.W.Frag) (x : Str) (lv : LV) : Bool := match lv with
  | .tup xs => (match mapO flatDv xs with
    | some ds => He.tupB K x ds && He.eqO (PySem.W.nsIn K mainGlobals x) (some (some (.ref (He.ga K x))))
    | none => false)
  | lv => match flatDv lv with
    | some d => (match PySem.W.nsIn K mainGlobals x with
      | some (some u) => He.relB (d.v K) u
      | _ => false)
    | none => false
theorem constB_ok {K : PySem.W.Frag} {h : Heap} {mg : Str → Option Value} (X : K.In h) (N : h.Ns mainGlobals mg) {x : Str} {lv : LV} (e : constB K x lv = true) (cls : Str → Option Addr) :
    ∃ u v, mg x = some u ∧ RelV v u ∧ ∀ F m H, RV (GI.at ⟨K, cls, []⟩ F) m H lv v := by
  unfold constB at e
  split at e
  · split at e
    · rename_i ds hds
      obtain ⟨e1, e2⟩ := He.ba e
      exact ⟨_, .ref (He.ga K x), PySem.W.mg_of X N (He.eqO_ok e2), rfl, fun F m H => ⟨_, _, rfl, .inr (He.tupB_ok e1 _), flatDvs_ok hds⟩⟩
    · cases e
  · split at e
    · rename_i d hd
      split at e
      · rename_i u hn
        exact ⟨_, _, PySem.W.mg_of X N hn, He.relB_ok e, fun F m H => flatDv_ok hd⟩
      · cases e
    · cases e
def impB (K : PySem.W.Frag) (x : Str) : Bool := He.eqO (PySem.W.nsIn K mainGlobals x) (some (some BF.gcd.val))
/-! ### the Hook -/
def dd (d : Df) : He.DefD := ⟨(d.x, none), d.x, d.x, defArgs d.st, defBody d.st, defScope d.st, [], []⟩
def faOf (p : Pr) (ds : List Df) : List He.Fa := (ds.map fun d => .glo d.x) ++ p.blts.map .free
def moreB (p : Pr) (K : PySem.W.Frag) : Bool := (p.consts.all fun q => constB K q.1 q.2) && p.imps.all fun x => impB K x
abbrev AlM : Type := He.AlD × Bool
def obsM (p : Pr) (ds : List Df) (K : PySem.W.Frag) : AlM := (He.obsD (faOf p ds) (ds.map dd) K, moreB p K)
def valM (ds : List Df) : AlM := (He.valD (ds.map dd), true)
def SaysM (p : Pr) (ds : List Df) (K : PySem.W.Frag) : Prop := obsM p ds K = valM ds
def obsMG (n : Nat) (p : Pr) (ds : List Df) (g : Addr → Option Obj) : AlM := obsM p ds (He.frG g (He.asD g n))
def hookM (n : Nat) (p : Pr) (ds : List Df) : PySem.W.Hook where
  α := AlM
  obs := fun s => obsMG n p ds s.heap.get?
  val := fun _ => valM ds
  says := fun _ h => ∃ K : PySem.W.Frag, K.In h ∧ SaysM p ds K
  of := fun _ _ e => ⟨_, He.frG_in, e⟩
  keeps := fun _ _ _ ⟨K, hK, c⟩ k => ⟨K, PySem.W.Frag.In.keeps hK k, c⟩
theorem obsMG_eq {n : Nat} {p : Pr} {ds : List Df} {g : Addr → Option Obj} {s : Shared} (h : ∀ a, g a = s.heap.get? a) : obsMG n p ds g = (hookM n p ds).obs s := by
  have e : g = s.heap.get? := funext h
  rw [e] <;> rfl
def obM (n : Nat) (p : Pr) (ds : List Df) (s : PySem.W.SharedT) : AlM := obsMG n p ds (HandSHeadRun.getT s)
theorem obM_eq (n : Nat) (p : Pr) (ds : List Df) (s : PySem.W.SharedT) : obM n p ds s = (hookM n p ds).obs s.abs := obsMG_eq (HandSHeadRun.getT_eq s)
/-- what is known of a def by its text alone -/
structure DfS (p : Pr) (d : Df) : Prop where
  comp : ∃ n, dfC p n d
  sc : FnScope d.N d.ps (defScope d.st)
  n : d.fb.n = d.N.length
  bd : ∀ (kV doc pm : Value) (an : Option Addr) (cdv ct : Value) (us : List Value), us.length = d.ps.length → bindArgs (PySem.W.fnOf d.x d.x (defArgs d.st) (defBody d.st) (defScope d.st) .none kV doc pm an cdv ct) ⟨us, []⟩ = pure (d.ps.zip us)
def tabOf (ds : List Df) : List (Str × FB) := ds.map fun d => (d.x, d.fb)
def funsOf (ds : List Df) : List (Str × Nat) := ds.map fun d => (d.x, d.ps.length)
theorem tab_look {ds : List Df} (hn : (ds.map (·.x)).Nodup) {d : Df} (h : d ∈ ds) : (tabOf ds).lookup d.x = some d.fb := by
  induction ds with
  | nil => cases h
  | cons e r ih =>
    rw [List.map_cons, List.nodup_cons] at hn
    show ((e.x, e.fb) :: tabOf r).lookup d.x = _
    rcases List.mem_cons.mp h with rfl | h
    · rw [List.lookup_cons_self]
    · have ne : (d.x == e.x) = false := by
        rw [beq_eq_false_iff_ne]
        exact fun z => hn.1 (by rw [← z]; exact List.mem_map_of_mem h)
      rw [List.lookup_cons, ne]
      exact ih hn.2 h
theorem funs_mem {ds : List Df} {x : Str} {n : Nat} (h : (funsOf ds).lookup x = some n) : ∃ d ∈ ds, d.x = x ∧ d.ps.length = n := by
  induction ds with
  | nil => cases h
  | cons e r ih =>
    have h : ((e.x, e.ps.length) :: funsOf r).lookup x = some n := h
    rw [List.lookup_cons] at h
    split at h
    · rename_i q
      cases h
      exact ⟨e, List.mem_cons_self, (beq_iff_eq.mp q).symm, rfl⟩
    · obtain ⟨d, h1, h2⟩ := ih h
      exact ⟨d, List.mem_cons_of_mem _ h1, h2⟩
section
variable {p : Pr} {ds : List Df} {K : PySem.W.Frag} {h : Heap} {mg : Str → Option Value}
theorem says_df (c : SaysM p ds K) {d : Df} (hd : d ∈ ds) : ∃ fd, FunD K d.x d.x (defArgs d.st) (defBody d.st) (defScope d.st) [] [] (He.ga K d.x) fd := by
  have c1 : He.SaysD (faOf p ds) (ds.map dd) K := congrArg (fun z : AlM => z.1) c
  obtain ⟨i, hi, e⟩ := List.getElem_of_mem hd
  have := He.SaysD.def_ c1 i (d := dd d) (by rw [List.getElem?_map, List.getElem?_eq_getElem hi, e]; rfl)
  exact this
theorem says_fa (c : SaysM p ds K) {f : He.Fa} (hf : f ∈ faOf p ds) : f.ok K = true := by
  have c1 : He.SaysD (faOf p ds) (ds.map dd) K := congrArg (fun z : AlM => z.1) c
  obtain ⟨i, hi, e⟩ := List.getElem_of_mem hf
  exact He.SaysD.fact c1 i (by rw [List.getElem?_eq_getElem hi, e])
theorem lookup_mem {α : Type} {l : List (Str × α)} {x : Str} {v : α} (h : l.lookup x = some v) : (x, v) ∈ l := by
  induction l with
  | nil => cases h
  | cons q r ih =>
    rw [List.lookup_cons] at h
    split at h
    · rename_i z
      cases h
      rw [beq_iff_eq.mp z]
      exact List.mem_cons_self
    · exact List.mem_cons_of_mem _ (ih h)
/-- the module, from its facts -/
theorem mod_of (X : K.In h) (N : h.Ns mainGlobals mg) (c : SaysM p ds K) (hn : (ds.map (·.x)).Nodup) (hf : p.funs = funsOf ds) (hS : ∀ d ∈ ds, DfS p d) : ModOk ⟨K, fun _ => none, []⟩ mg p (tabOf ds) := by
  have cm : ((p.consts.all fun q => constB K q.1 q.2) && p.imps.all fun x => impB K x) = true := congrArg (fun z : AlM => z.2) c
  obtain ⟨cm1, cm2⟩ := He.ba cm
  refine ⟨fun x hx => ?_, fun x hx => ?_, fun x lv hx => ?_, fun x n hx => ?_⟩
  · exact He.free_ok X N (says_fa c (List.mem_append_right _ (List.mem_map_of_mem hx)))
  · exact PySem.W.mg_of X N (He.eqO_ok (List.all_eq_true.mp cm2 x hx))
  · exact constB_ok X N (List.all_eq_true.mp cm1 _ (lookup_mem hx)) _
  · rw [hf] at hx
    obtain ⟨d, hd, e1, e2⟩ := funs_mem hx
    have S := hS d hd
    obtain ⟨fd, F⟩ := says_df c hd
    refine ⟨d, e1, e2, S.comp, S.sc, S.n, tab_look hn hd, He.ga K d.x, fd, fun_of F, ?_, F.bindsN S.bd⟩
    exact He.glo_ok X N (says_fa c (List.mem_append_left _ (List.mem_map_of_mem (f := fun d : Df => He.Fa.glo d.x) hd)))
end
/-! ### the row's end -/
theorem walk_ofEB {l : PySem.W.OpenLaw} {n k : Nat} {q : Program} {loose : List Str} {XP : (Str → Option Value) → Heap → Prop} {YP : World → Heap → Prop} {d : DefRec} {CX : CXT} {x : Str}
    (hn : l.most = some n) (hn2 : n ≤ sizeLine) (hdf : d.params.defaults = []) (hr : Room k callerA)
    (F : ∀ (w : World) (mg : Str → Option Value) (fa : Addr) (h : Heap), YP w h → h.Ns mainGlobals mg → mg d.name = some (.ref fa) →
      ∃ (K : PySem.W.Frag) (fd : FuncData) (sp : Sp), K.In h ∧ (∀ (s : Shared) (u : Value), BindsTo s fd ⟨[u], []⟩ [(x, u)]) ∧
        (∀ (H : Hp) (a : Addr) (ns : List Int), ns.length ≤ n → (∀ z ∈ ns, Builtin.Int.intBits z ≤ 1048576) → Only H → SqL K H a (ns.map V.int) → sp [.ref a] H (fun v _ => v = .bl true) fun _ _ _ => False) ∧
        ∀ base : Heap, K.In base → base.Ns mainGlobals mg → FnOk l.prog w K mg base CX k fa fd [x] sp)
    (hCX : ∀ (H : Hp) (s : Shared) (e : Value) (s' : Shared), CX [] H s (fun _ _ _ => False) e s' → False) :
    PySem.W.WalkO q loose XP YP l.row.toRowW d [] (fun f vs => PySem.call f vs) := by
  refine Att.attach_callB hn hdf fun w s₀ s₁ mg mb fa o pm cd doc a vs ns G Y ho hd hcd hmg hobj hints hlen hbits hg => ?_
  obtain ⟨K, fd, sp, KX, hb, hsp, hF⟩ := F w mg fa _ Y G.T.g hmg
  exact law_call KX G.T.g G.T.b G.T.builtins G.T.nolimit hg hobj hints (Nat.le_trans hlen hn2) hr hF hb (fun H hO hS => hsp H a ns hlen hbits hO hS) fun H e s' => hCX H s₁ e s'
/-- a def of the module by its own function object -/
theorem fn_one {P : Program} {w : World} {G : GI} {mg : Str → Option Value} {base : Heap} {p : Pr} {T : List (Str × FB)} (M : ModOk G mg p T) (k : Nat) {d : Df} {f : Addr} {fd : FuncData} (fn : Fun G.K d.x d.x d.st f fd) (hcomp : ∃ n, dfC p n d) (sc : FnScope d.N d.ps (defScope d.st)) (hn : d.fb.n = d.N.length)
    (hT : T.lookup d.x = some d.fb) : FnOk P w G.K mg base CX0 (k + 1) f fd d.ps (spOf G (evCall T (k + 1)) d.x d.ps.length) := by
  obtain ⟨cn, hcomp⟩ := hcomp
  refine fn.ok sc (fun vs H Q E hs => ?_) (fun cdv A outer s H vs Q E hr hs => ?_)
  · obtain ⟨F, m, L, as, R, r, hl, q⟩ := hs
    rw [r.length, hl]
  · obtain ⟨F, m, L, as, R, r, hl, q⟩ := hs
    refine ⟨_, WB.pss _ _, ?_⟩
    have g : Good G p (evCall T k) k (cxOf CX0 P w G.K mg base d.N d.x (defScope d.st) f cdv A outer s H E).nox (scOf d.N (defScope d.st)) := by
      refine ⟨rfl, rfl, rfl, sc.nd, sc.kind, rfl, hr, fun y hy => ?_, M.blt, M.imp, M.con, fun y j hy => ?_⟩
      · have := (List.mem_filter.mp hy).2
        rw [Bool.or_eq_true, decide_eq_true_eq, decide_eq_true_eq] at this
        exact ⟨this, .inl rfl⟩
      · exact fn_ok M k y j hy
    have B := (compS_ok (G := G) (p := p) (cb := evCall T k) (k := k) cn cn).blk hcomp F g PassesOwn.never
    have q : PostE (G.at F) m H (callB d.fb (evCall T k) as L) Q := by
      have e : evCall T (k + 1) d.x as L = callB d.fb (evCall T k) as L := by
        show (match T.lookup d.x with | some fb => callB fb (evCall T k) as L | none => .fail) = _
        rw [hT]
      rw [← e]; exact q
    refine B m L (as.map some ++ List.replicate (d.fb.n - as.length) none) H _ _ R ⟨?_, fun i y hy => ?_⟩ (post_fin R q)
    · unfold L2.start
      rw [List.length_append, List.length_append, List.length_map, List.length_map, List.length_replicate, List.length_replicate, r.length, hn]
    · unfold L2.start
      by_cases hi : i < as.length
      · rw [List.getElem?_append_left (by simpa using hi), List.getElem?_map] at hy
        obtain ⟨z, h1, h2⟩ := Option.map_eq_some_iff.mp hy
        cases h2
        obtain ⟨v, h3, h4⟩ := r.get h1
        exact ⟨v, by rw [List.getElem?_append_left (by rw [List.length_map, r.length]; exact hi), List.getElem?_map, h3]; rfl, h4⟩
      · rw [List.getElem?_append_right (by simpa using hi)] at hy
        rw [List.getElem?_replicate] at hy
        split at hy <;> cases hy
/-- the law itself -/
theorem law_end {l : PySem.W.OpenLaw} {q : Program} {loose : List Str} {XP : (Str → Option Value) → Heap → Prop} {d : DefRec} {p : Pr} {ds : List Df} {k n : Nat} {dl : Df}
    (hn : l.most = some 63) (hdf : d.params.defaults = []) (hr : Room (k + 1) callerA) (hdn : d.name = dl.x) (hl : dl ∈ ds) (hps : dl.ps = [("script" : Str)]) (hnd : (ds.map (·.x)).Nodup) (hf : p.funs = funsOf ds) (hS : ∀ d ∈ ds, DfS p d)
    (law : ∀ ns : List Int, ns.length ≤ 63 → (∀ z ∈ ns, Builtin.Int.intBits z ≤ 1048576) → ∃ L, evCall (tabOf ds) (k + 1) dl.x [.lst (ns.map .int)] [] = .ok (.bl true) L) :
    PySem.W.WalkO q loose XP (hookM n p ds).says l.row.toRowW d [] (fun f vs => PySem.call f vs) := by
  refine walk_ofEB (n := 63) (k := k + 1) (CX := CX0) (x := "script") hn (by decide) hdf hr (fun w mg fa h Y N hmg => ?_) (fun _ _ _ _ z => z)
  obtain ⟨K, KX, c⟩ := Y
  rw [hdn] at hmg
  obtain ⟨fd, F⟩ := says_df c hl
  have hga : fa = He.ga K dl.x := by
    have := He.glo_ok KX N (says_fa c (List.mem_append_left _ (List.mem_map_of_mem (f := fun d : Df => He.Fa.glo d.x) hl)))
    rw [hmg] at this
    cases this; rfl
  subst hga
  refine ⟨K, fd, spLaw K, KX, fun s u => ?_, fun H a ns h1 h2 _ h3 => ⟨a, ns, rfl, h3, h1, h2, fun _ => rfl⟩, fun base hb hbn => ?_⟩
  · have := FunD.bindsA F (hS dl hl).bd s [u] (by rw [hps]; rfl)
    rw [hps] at this
    exact this
  · have M := mod_of hb hbn c hnd hf hS
    have S := hS dl hl
    have FO := fn_one (P := l.prog) (w := w) (base := base) M k (fun_of F) S.comp S.sc S.n (tab_look hnd hl)
    rw [hps] at FO
    exact law_ok (G := ⟨K, fun _ => none, []⟩) FO law
end Ev

set_option maxHeartbeats 4000000
/-! Ev16: the evaluator's equations for simp. -/
namespace Ev
open PySem PySem.Spec PyProof.Rows L2
/-! ### the evaluator's inner steps by names: nothing is looked at ahead of its time -/
def aK2 (x : LV) : Res (List LV) → Res (List LV)
  | .ok xs L => .ok (x :: xs) L
  | .fail => .fail
def aK1 (cb : CB) (s : Sl) (fs : List LE) : Res LV → Res (List LV)
  | .ok x L => aK2 x (argsE cb s fs L)
  | .fail => .fail
def tupK : Res (List LV) → Res LV
  | .ok xs L => .ok (.tup xs) L
  | .fail => .fail
def lstK (mu : Bool) : Res (List LV) → Res LV
  | .ok xs L => newL mu xs L
  | .fail => .fail
def binK2 (op : Operator) (mu : Bool) (x : LV) : Res LV → Res LV
  | .ok y L => binL op mu x y L
  | .fail => .fail
def binK1 (op : Operator) (mu : Bool) (g : LE) (cb : CB) (s : Sl) : Res LV → Res LV
  | .ok x L => binK2 op mu x (g cb s L)
  | .fail => .fail
def optV2 (L : List LO) : Option LV → Res LV
  | some x => .ok x L
  | none => .fail
def idxK2 (x : LV) : Res LV → Res LV
  | .ok y L => optV L (idxL L x y)
  | .fail => .fail
def idxK1 (g : LE) (cb : CB) (s : Sl) : Res LV → Res LV
  | .ok x L => idxK2 x (g cb s L)
  | .fail => .fail
def cmpK2 (op : CmpOp) (x : LV) : Res LV → Res LV
  | .ok y L => optB L (cmpL op L x y)
  | .fail => .fail
def cmpK1 (op : CmpOp) (g : LE) (cb : CB) (s : Sl) : Res LV → Res LV
  | .ok x L => cmpK2 op x (g cb s L)
  | .fail => .fail
def testK : Res LV → Res Bool
  | .ok (.bl b) L => .ok b L
  | _ => .fail
def truO (L : List LO) : Option Bool → Res Bool
  | some b => .ok b L
  | none => .fail
def truK : Res LV → Res Bool
  | .ok x L => truO L (truthL L x)
  | .fail => .fail
def notK : Res Bool → Res Bool
  | .ok b L => .ok (!b) L
  | .fail => .fail
def andK (u : LT) (cb : CB) (s : Sl) : Res Bool → Res Bool
  | .ok true L => u cb s L
  | .ok false L => .ok false L
  | .fail => .fail
def orK (u : LT) (cb : CB) (s : Sl) : Res Bool → Res Bool
  | .ok true L => .ok true L
  | .ok false L => u cb s L
  | .fail => .fail
def andV2 (g : LE) (cb : CB) (s : Sl) (x : LV) (L : List LO) : Option Bool → Res LV
  | some true => g cb s L
  | some false => .ok x L
  | none => .fail
def andV1 (g : LE) (cb : CB) (s : Sl) : Res LV → Res LV
  | .ok x L => andV2 g cb s x L (truthL L x)
  | .fail => .fail
def orV2 (g : LE) (cb : CB) (s : Sl) (x : LV) (L : List LO) : Option Bool → Res LV
  | some true => .ok x L
  | some false => g cb s L
  | none => .fail
def orV1 (g : LE) (cb : CB) (s : Sl) : Res LV → Res LV
  | .ok x L => orV2 g cb s x L (truthL L x)
  | .fail => .fail
def notV2 (L : List LO) : Option Bool → Res LV
  | some b => .ok (.bl (!b)) L
  | none => .fail
def notV1 : Res LV → Res LV
  | .ok x L => notV2 L (truthL L x)
  | .fail => .fail
def negK : Res LV → Res LV
  | .ok (.int i) L => .ok (.int (-i)) L
  | _ => .fail
def ifV (f g : LE) (cb : CB) (s : Sl) : Res Bool → Res LV
  | .ok true L => f cb s L
  | .ok false L => g cb s L
  | .fail => .fail
def chK4 (op' : CmpOp) (y : LV) : Res LV → Res LV
  | .ok z L => optB L (cmpL op' L y z)
  | .fail => .fail
def chK3 (op' : CmpOp) (h : LE) (cb : CB) (s : Sl) (y : LV) (L : List LO) : Option Bool → Res LV
  | some true => chK4 op' y (h cb s L)
  | some false => .ok (.bl false) L
  | none => .fail
def chK2 (op op' : CmpOp) (h : LE) (cb : CB) (s : Sl) (x : LV) : Res LV → Res LV
  | .ok y L => chK3 op' h cb s y L (cmpL op L x y)
  | .fail => .fail
def chK1 (op op' : CmpOp) (g h : LE) (cb : CB) (s : Sl) : Res LV → Res LV
  | .ok x L => chK2 op op' h cb s x (g cb s L)
  | .fail => .fail
def partK : Res LV → Res (Option Int)
  | .ok (.int i) L => .ok (some i) L
  | _ => .fail
def slK3 (mu : Bool) (x : LV) (l : Option Int) : Res (Option Int) → Res LV
  | .ok u L => sliceL mu x l u L
  | .fail => .fail
def slK2 (mu : Bool) (x : LV) (hi : LP) (cb : CB) (s : Sl) : Res (Option Int) → Res LV
  | .ok l L => slK3 mu x l (hi cb s L)
  | .fail => .fail
def slK1 (mu : Bool) (lo hi : LP) (cb : CB) (s : Sl) : Res LV → Res LV
  | .ok x L => slK2 mu x hi cb s (lo cb s L)
  | .fail => .fail
def callK (cb : CB) (x : Str) : Res (List LV) → Res LV
  | .ok xs L => cb x xs L
  | .fail => .fail
def biK (b : BF) (mu : Bool) : Res (List LV) → Res LV
  | .ok xs L => biL b mu xs L
  | .fail => .fail
def apK2 (i : Nat) : Res LV → Res LV
  | .ok x L2 => match L2[i]? with
    | some (.lst xs) => if xs.length < sizeLine then .ok .non (L2.set i (.lst (xs ++ [x]))) else .fail
    | _ => .fail
  | .fail => .fail
def apK1 (g : LE) (cb : CB) (s : Sl) : Res LV → Res LV
  | .ok (.ref i) L1 => match L1[i]? with
    | some (.lst _) => apK2 i (g cb s L1)
    | _ => .fail
  | _ => .fail
def geO (d : LV) (L : List LO) : Option (List (DK × LV)) → Option DK → Res LV
  | some kvs, some k => if kDict kvs = true then .ok ((dget kvs k).getD d) L else .fail
  | _, _ => .fail
def geK2 (o : LV) : Res LV → Res LV
  | .ok k L => geO .non L (dctOf L o) (toDK k)
  | .fail => .fail
def geK1 (g : LE) (cb : CB) (s : Sl) : Res LV → Res LV
  | .ok o L => (match dctOf L o with
    | some _ => geK2 o (g cb s L)
    | none => .fail)
  | .fail => .fail
def gfK3 (o k : LV) : Res LV → Res LV
  | .ok x L => geO x L (dctOf L o) (toDK k)
  | .fail => .fail
def gfK2 (o : LV) (h : LE) (cb : CB) (s : Sl) : Res LV → Res LV
  | .ok k L => gfK3 o k (h cb s L)
  | .fail => .fail
def gfK1 (g h : LE) (cb : CB) (s : Sl) : Res LV → Res LV
  | .ok o L => (match dctOf L o with
    | some _ => gfK2 o h cb s (g cb s L)
    | none => .fail)
  | .fail => .fail
def asgK (i : Nat) (s : Sl) : Res LV → Res (Fl × Sl)
  | .ok x L => .ok (.next, s.set i (some x)) L
  | .fail => .fail
def asgO (L : List LO) : Option Sl → Res (Fl × Sl)
  | some s => .ok (.next, s) L
  | none => .fail
def asgTK (t : Tg) (s : Sl) : Res LV → Res (Fl × Sl)
  | .ok x L => asgO L (stT t x s)
  | .fail => .fail
def putK4 (s : Sl) : Res Unit → Res (Fl × Sl)
  | .ok _ L => .ok (.next, s) L
  | .fail => .fail
def putK3 (v o : LV) (s : Sl) : Res LV → Res (Fl × Sl)
  | .ok i L => putK4 s (setL o i v L)
  | .fail => .fail
def putK2 (v : LV) (h : LE) (cb : CB) (s : Sl) : Res LV → Res (Fl × Sl)
  | .ok o L => putK3 v o s (h cb s L)
  | .fail => .fail
def putK1 (g h : LE) (cb : CB) (s : Sl) : Res LV → Res (Fl × Sl)
  | .ok v L => putK2 v h cb s (g cb s L)
  | .fail => .fail
def retK (s : Sl) : Res LV → Res (Fl × Sl)
  | .ok x L => .ok (.ret x, s) L
  | .fail => .fail
def exprK (s : Sl) : Res LV → Res (Fl × Sl)
  | .ok _ L => .ok (.next, s) L
  | .fail => .fail
def ifK (a b : LSt) (cb : CB) (s : Sl) : Res Bool → Res (Fl × Sl)
  | .ok true L => a cb s L
  | .ok false L => b cb s L
  | .fail => .fail
def blkK (cb : CB) (r : List LSt) : Res (Fl × Sl) → Res (Fl × Sl)
  | .ok (.next, s) L => blkS r cb s L
  | x => x
section
variable {cb : CB} {s : Sl} {L : List LO} {f g h : LE} {t u : LT}
/-! expressions -/
theorem varE_ev {i : Nat} : varE i cb s L = optV L (s[i]?.bind id) := by
  unfold varE
  cases s[i]? with
  | none => rfl
  | some o => cases o <;> rfl
theorem cE_ev {x : LV} : cE x cb s L = .ok x L := rfl
theorem argsE_nil : argsE cb s [] L = .ok [] L := rfl
theorem argsE_cons {fs : List LE} : argsE cb s (f :: fs) L = aK1 cb s fs (f cb s L) := by
  show (f cb s L).bind _ = _
  cases f cb s L with
  | fail => rfl
  | ok x L1 => show (argsE cb s fs L1).bind _ = aK2 x (argsE cb s fs L1); cases argsE cb s fs L1 <;> rfl
theorem aK1_ok {x : LV} {fs : List LE} : aK1 cb s fs (.ok x L) = aK2 x (argsE cb s fs L) := rfl
theorem aK2_ok {x : LV} {xs : List LV} : aK2 x (.ok xs L) = .ok (x :: xs) L := rfl
theorem tupE_ev {fs : List LE} : tupE fs cb s L = tupK (argsE cb s fs L) := by
  show (argsE cb s fs L).bind _ = _
  cases argsE cb s fs L <;> rfl
theorem tupK_ok {xs : List LV} : tupK (.ok xs L) = .ok (.tup xs) L := rfl
theorem lstE_ev {mu : Bool} {fs : List LE} : lstE mu fs cb s L = lstK mu (argsE cb s fs L) := by
  show (argsE cb s fs L).bind _ = _
  cases argsE cb s fs L <;> rfl
theorem lstK_ok {mu : Bool} {xs : List LV} : lstK mu (.ok xs L) = newL mu xs L := rfl
theorem dctE_ev {mu : Bool} : dctE mu cb s L = newD mu [] L := rfl
theorem newL_t {xs : List LV} : newL true xs L = .ok (.ref L.length) (L ++ [.lst xs]) := rfl
theorem newL_f {xs : List LV} : newL false xs L = .ok (.lst xs) L := rfl
theorem newD_t {xs : List (DK × LV)} : newD true xs L = .ok (.ref L.length) (L ++ [.dct xs]) := rfl
theorem newD_f {xs : List (DK × LV)} : newD false xs L = .ok (.dct xs) L := rfl
theorem two_ev {z : LV → LV → List LO → Res LV} {k2 : LV → Res LV → Res LV} (hk : ∀ x r, k2 x r = match r with | .ok y L => z x y L | .fail => .fail) : bin2 z f g cb s L = match f cb s L with | .ok x L1 => k2 x (g cb s L1) | .fail => .fail := by
  show (f cb s L).bind _ = _
  cases f cb s L with
  | fail => rfl
  | ok x L1 =>
    show (g cb s L1).bind _ = k2 x (g cb s L1)
    rw [hk]
    cases g cb s L1 <;> rfl
theorem binE_ev {op : Operator} {mu : Bool} : binE op mu f g cb s L = binK1 op mu g cb s (f cb s L) := by
  unfold binE
  rw [two_ev (k2 := binK2 op mu) (fun x r => by cases r <;> rfl)]
  cases f cb s L <;> rfl
theorem binK1_ok {op : Operator} {mu : Bool} {x : LV} : binK1 op mu g cb s (.ok x L) = binK2 op mu x (g cb s L) := rfl
theorem binK2_ok {op : Operator} {mu : Bool} {x y : LV} : binK2 op mu x (.ok y L) = binL op mu x y L := rfl
theorem idxE_ev : idxE f g cb s L = idxK1 g cb s (f cb s L) := by
  unfold idxE
  rw [two_ev (k2 := idxK2) (fun x r => by cases r <;> rfl)]
  cases f cb s L <;> rfl
theorem idxK1_ok {x : LV} : idxK1 g cb s (.ok x L) = idxK2 x (g cb s L) := rfl
theorem idxK2_ok {x y : LV} : idxK2 x (.ok y L) = optV L (idxL L x y) := rfl
theorem cmpE_ev {op : CmpOp} : cmpE op f g cb s L = cmpK1 op g cb s (f cb s L) := by
  unfold cmpE
  rw [two_ev (k2 := cmpK2 op) (fun x r => by cases r <;> rfl)]
  cases f cb s L <;> rfl
theorem cmpK1_ok {op : CmpOp} {x : LV} : cmpK1 op g cb s (.ok x L) = cmpK2 op x (g cb s L) := rfl
theorem cmpK2_ok {op : CmpOp} {x y : LV} : cmpK2 op x (.ok y L) = optB L (cmpL op L x y) := rfl
theorem optV_s {x : LV} : optV L (some x) = .ok x L := rfl
theorem optB_s {x : Bool} : optB L (some x) = .ok (LV.bl x) L := rfl
theorem testB_ev : testB f cb s L = testK (f cb s L) := by
  show (f cb s L).bind _ = _
  cases f cb s L with
  | fail => rfl
  | ok x L1 => cases x <;> rfl
theorem testK_ok {b : Bool} : testK (.ok (.bl b) L) = .ok b L := rfl
theorem truE_ev : truE f cb s L = truK (f cb s L) := by
  show (f cb s L).bind _ = _
  cases f cb s L with
  | fail => rfl
  | ok x L1 => show (match truthL L1 x with | some b => _ | none => _) = truO L1 (truthL L1 x); cases truthL L1 x <;> rfl
theorem truK_ok {x : LV} : truK (.ok x L) = truO L (truthL L x) := rfl
theorem truO_s {b : Bool} : truO L (some b) = .ok b L := rfl
theorem notT_ev : notT t cb s L = notK (t cb s L) := by
  show (t cb s L).bind _ = _
  cases t cb s L <;> rfl
theorem notK_ok {b : Bool} : notK (.ok b L) = .ok (!b) L := rfl
theorem andT_ev : andT t u cb s L = andK u cb s (t cb s L) := by
  show (t cb s L).bind _ = _
  cases t cb s L with
  | fail => rfl
  | ok b L1 => cases b <;> rfl
theorem andK_t : andK u cb s (.ok true L) = u cb s L := rfl
theorem andK_f : andK u cb s (.ok false L) = .ok false L := rfl
theorem orT_ev : orT t u cb s L = orK u cb s (t cb s L) := by
  show (t cb s L).bind _ = _
  cases t cb s L with
  | fail => rfl
  | ok b L1 => cases b <;> rfl
theorem orK_t : orK u cb s (.ok true L) = .ok true L := rfl
theorem orK_f : orK u cb s (.ok false L) = u cb s L := rfl
theorem andE_ev : andE f g cb s L = andV1 g cb s (f cb s L) := by
  show (f cb s L).bind _ = _
  cases f cb s L with
  | fail => rfl
  | ok x L1 =>
    show (match truthL L1 x with | some true => _ | some false => _ | none => _) = andV2 g cb s x L1 (truthL L1 x)
    cases truthL L1 x with
    | none => rfl
    | some b => cases b <;> rfl
theorem andV1_ok {x : LV} : andV1 g cb s (.ok x L) = andV2 g cb s x L (truthL L x) := rfl
theorem andV2_t {x : LV} : andV2 g cb s x L (some true) = g cb s L := rfl
theorem andV2_f {x : LV} : andV2 g cb s x L (some false) = .ok x L := rfl
theorem orE_ev : orE f g cb s L = orV1 g cb s (f cb s L) := by
  show (f cb s L).bind _ = _
  cases f cb s L with
  | fail => rfl
  | ok x L1 =>
    show (match truthL L1 x with | some true => _ | some false => _ | none => _) = orV2 g cb s x L1 (truthL L1 x)
    cases truthL L1 x with
    | none => rfl
    | some b => cases b <;> rfl
theorem orV1_ok {x : LV} : orV1 g cb s (.ok x L) = orV2 g cb s x L (truthL L x) := rfl
theorem orV2_t {x : LV} : orV2 g cb s x L (some true) = .ok x L := rfl
theorem orV2_f {x : LV} : orV2 g cb s x L (some false) = g cb s L := rfl
theorem notE_ev : notE f cb s L = notV1 (f cb s L) := by
  show (f cb s L).bind _ = _
  cases f cb s L with
  | fail => rfl
  | ok x L1 => show (match truthL L1 x with | some b => _ | none => _) = notV2 L1 (truthL L1 x); cases truthL L1 x <;> rfl
theorem notV1_ok {x : LV} : notV1 (.ok x L) = notV2 L (truthL L x) := rfl
theorem notV2_s {b : Bool} : notV2 L (some b) = .ok (.bl (!b)) L := rfl
theorem negE_ev : negE f cb s L = negK (f cb s L) := by
  show (f cb s L).bind _ = _
  cases f cb s L with
  | fail => rfl
  | ok x L1 => cases x <;> rfl
theorem negK_ok {i : Int} : negK (.ok (.int i) L) = .ok (.int (-i)) L := rfl
theorem ifE_ev : ifE t f g cb s L = ifV f g cb s (t cb s L) := by
  show (t cb s L).bind _ = _
  cases t cb s L with
  | fail => rfl
  | ok b L1 => cases b <;> rfl
theorem ifV_t : ifV f g cb s (.ok true L) = f cb s L := rfl
theorem ifV_f : ifV f g cb s (.ok false L) = g cb s L := rfl
theorem chainE_ev {op op' : CmpOp} : chainE op op' f g h cb s L = chK1 op op' g h cb s (f cb s L) := by
  show (f cb s L).bind _ = _
  cases f cb s L with
  | fail => rfl
  | ok x L1 =>
    show (g cb s L1).bind _ = chK2 op op' h cb s x (g cb s L1)
    cases g cb s L1 with
    | fail => rfl
    | ok y L2 =>
      show (match cmpL op L2 x y with | some true => _ | some false => _ | none => _) = chK3 op' h cb s y L2 (cmpL op L2 x y)
      cases cmpL op L2 x y with
      | none => rfl
      | some b =>
        cases b with
        | false => rfl
        | true =>
          show (h cb s L2).bind _ = chK4 op' y (h cb s L2)
          cases h cb s L2 <;> rfl
theorem chK1_ok {op op' : CmpOp} {x : LV} : chK1 op op' g h cb s (.ok x L) = chK2 op op' h cb s x (g cb s L) := rfl
theorem chK2_ok {op op' : CmpOp} {x y : LV} : chK2 op op' h cb s x (.ok y L) = chK3 op' h cb s y L (cmpL op L x y) := rfl
theorem chK3_t {op' : CmpOp} {y : LV} : chK3 op' h cb s y L (some true) = chK4 op' y (h cb s L) := rfl
theorem chK3_f {op' : CmpOp} {y : LV} : chK3 op' h cb s y L (some false) = .ok (.bl false) L := rfl
theorem chK4_ok {op' : CmpOp} {y z : LV} : chK4 op' y (.ok z L) = optB L (cmpL op' L y z) := rfl
theorem partE_ev : partE f cb s L = partK (f cb s L) := by
  show (f cb s L).bind _ = _
  cases f cb s L with
  | fail => rfl
  | ok x L1 => cases x <;> rfl
theorem partK_ok {i : Int} : partK (.ok (.int i) L) = .ok (some i) L := rfl
theorem noE_ev : noE cb s L = .ok none L := rfl
theorem sliceE_ev {mu : Bool} {lo hi : LP} : sliceE mu f lo hi cb s L = slK1 mu lo hi cb s (f cb s L) := by
  show (f cb s L).bind _ = _
  cases f cb s L with
  | fail => rfl
  | ok x L1 =>
    show (lo cb s L1).bind _ = slK2 mu x hi cb s (lo cb s L1)
    cases lo cb s L1 with
    | fail => rfl
    | ok y L2 =>
      show (hi cb s L2).bind _ = slK3 mu x y (hi cb s L2)
      cases hi cb s L2 <;> rfl
theorem slK1_ok {mu : Bool} {lo hi : LP} {x : LV} : slK1 mu lo hi cb s (.ok x L) = slK2 mu x hi cb s (lo cb s L) := rfl
theorem slK2_ok {mu : Bool} {hi : LP} {x : LV} {l : Option Int} : slK2 mu x hi cb s (.ok l L) = slK3 mu x l (hi cb s L) := rfl
theorem slK3_ok {mu : Bool} {x : LV} {l u : Option Int} : slK3 mu x l (.ok u L) = sliceL mu x l u L := rfl
theorem callE_ev {x : Str} {fs : List LE} : callE x fs cb s L = callK cb x (argsE cb s fs L) := by
  show (argsE cb s fs L).bind _ = _
  cases argsE cb s fs L <;> rfl
theorem callK_ok {x : Str} {xs : List LV} : callK cb x (.ok xs L) = cb x xs L := rfl
theorem biE_ev {b : BF} {mu : Bool} {fs : List LE} : biE b mu fs cb s L = biK b mu (argsE cb s fs L) := by
  show (argsE cb s fs L).bind _ = _
  cases argsE cb s fs L <;> rfl
theorem biK_ok {b : BF} {mu : Bool} {xs : List LV} : biK b mu (.ok xs L) = biL b mu xs L := rfl
theorem appE_ev : appE f g cb s L = apK1 g cb s (f cb s L) := by
  show (f cb s L).bind _ = _
  cases f cb s L with
  | fail => rfl
  | ok x L1 =>
    cases x with
    | ref i =>
      show (match L1[i]? with | some (.lst _) => (g cb s L1).bind _ | _ => .fail) = (match L1[i]? with | some (.lst _) => apK2 i (g cb s L1) | _ => .fail)
      cases L1[i]? with
      | none => rfl
      | some o =>
        cases o with
        | lst xs =>
          dsimp only
          cases g cb s L1 <;> rfl
        | _ => rfl
    | _ => rfl
theorem apK1_ok {i : Nat} {xs : List LV} (h : L[i]? = some (.lst xs)) : apK1 g cb s (.ok (.ref i) L) = apK2 i (g cb s L) := by
  unfold apK1
  simp only [h]
theorem apK2_ok {i : Nat} {x : LV} : apK2 i (.ok x L) = match L[i]? with | some (.lst xs) => if xs.length < sizeLine then .ok .non (L.set i (.lst (xs ++ [x]))) else .fail | _ => .fail := rfl
theorem getE_ev : getE f g cb s L = geK1 g cb s (f cb s L) := by
  show (f cb s L).bind _ = _
  cases f cb s L with
  | fail => rfl
  | ok x L1 =>
    show (match dctOf L1 x with | some _ => (g cb s L1).bind _ | none => .fail) = (match dctOf L1 x with | some _ => geK2 x (g cb s L1) | none => .fail)
    cases dctOf L1 x with
    | none => rfl
    | some o =>
      dsimp only
      cases g cb s L1 with
      | fail => rfl
      | ok y L2 =>
        show (match dctOf L2 x, toDK y with | some kvs, some k => _ | _, _ => _) = geO .non L2 (dctOf L2 x) (toDK y)
        cases dctOf L2 x with
        | none => cases toDK y <;> rfl
        | some o => cases toDK y <;> rfl
theorem geK1_ok {o : LV} {kvs : List (DK × LV)} (h : dctOf L o = some kvs) : geK1 g cb s (.ok o L) = geK2 o (g cb s L) := by
  unfold geK1
  simp only [h]
theorem geK2_ok {o k : LV} : geK2 o (.ok k L) = geO .non L (dctOf L o) (toDK k) := rfl
theorem get2E_ev : get2E f g h cb s L = gfK1 g h cb s (f cb s L) := by
  show (f cb s L).bind _ = _
  cases f cb s L with
  | fail => rfl
  | ok x L1 =>
    show (match dctOf L1 x with | some _ => (g cb s L1).bind _ | none => .fail) = (match dctOf L1 x with | some _ => gfK2 x h cb s (g cb s L1) | none => .fail)
    cases dctOf L1 x with
    | none => rfl
    | some o =>
      dsimp only
      cases g cb s L1 with
      | fail => rfl
      | ok y L2 =>
        show (h cb s L2).bind _ = gfK3 x y (h cb s L2)
        cases h cb s L2 with
        | fail => rfl
        | ok z L3 =>
          show (match dctOf L3 x, toDK y with | some kvs, some k => _ | _, _ => _) = geO z L3 (dctOf L3 x) (toDK y)
          cases dctOf L3 x with
          | none => cases toDK y <;> rfl
          | some o => cases toDK y <;> rfl
theorem gfK1_ok {o : LV} {kvs : List (DK × LV)} (hd : dctOf L o = some kvs) : gfK1 g h cb s (.ok o L) = gfK2 o h cb s (g cb s L) := by
  unfold gfK1
  simp only [hd]
theorem gfK2_ok {o k : LV} : gfK2 o h cb s (.ok k L) = gfK3 o k (h cb s L) := rfl
theorem gfK3_ok {o k x : LV} : gfK3 o k (.ok x L) = geO x L (dctOf L o) (toDK k) := rfl
theorem geO_ok {d : LV} {kvs : List (DK × LV)} {k : DK} : geO d L (some kvs) (some k) = if kDict kvs = true then .ok ((dget kvs k).getD d) L else .fail := rfl
/-! statements -/
theorem asgN_ev {i : Nat} : asgN i f cb s L = asgK i s (f cb s L) := by
  show (f cb s L).bind _ = _
  cases f cb s L <;> rfl
theorem asgK_ok {i : Nat} {x : LV} : asgK i s (.ok x L) = .ok (.next, s.set i (some x)) L := rfl
theorem asgT_ev {tg : Tg} : asgT tg f cb s L = asgTK tg s (f cb s L) := by
  show (f cb s L).bind _ = _
  cases f cb s L with
  | fail => rfl
  | ok x L1 => show (match stT tg x s with | some s' => _ | none => _) = asgO L1 (stT tg x s); cases stT tg x s <;> rfl
theorem asgTK_ok {tg : Tg} {x : LV} : asgTK tg s (.ok x L) = asgO L (stT tg x s) := rfl
theorem asgO_s {s' : Sl} : asgO L (some s') = .ok (.next, s') L := rfl
theorem putE_ev : putE f g h cb s L = putK1 g h cb s (f cb s L) := by
  show (f cb s L).bind _ = _
  cases f cb s L with
  | fail => rfl
  | ok x L1 =>
    show (g cb s L1).bind _ = putK2 x h cb s (g cb s L1)
    cases g cb s L1 with
    | fail => rfl
    | ok y L2 =>
      show (h cb s L2).bind _ = putK3 x y s (h cb s L2)
      cases h cb s L2 with
      | fail => rfl
      | ok z L3 =>
        show (setL y z x L3).bind _ = putK4 s (setL y z x L3)
        cases setL y z x L3 <;> rfl
theorem putK1_ok {v : LV} : putK1 g h cb s (.ok v L) = putK2 v h cb s (g cb s L) := rfl
theorem putK2_ok {v o : LV} : putK2 v h cb s (.ok o L) = putK3 v o s (h cb s L) := rfl
theorem putK3_ok {v o i : LV} : putK3 v o s (.ok i L) = putK4 s (setL o i v L) := rfl
theorem putK4_ok {z : Unit} : putK4 s (.ok z L) = .ok (.next, s) L := rfl
theorem retE_ev : retE f cb s L = retK s (f cb s L) := by
  show (f cb s L).bind _ = _
  cases f cb s L <;> rfl
theorem retK_ok {x : LV} : retK s (.ok x L) = .ok (.ret x, s) L := rfl
theorem retN_ev : retN cb s L = .ok (.ret .non, s) L := rfl
theorem exprS_ev : exprS f cb s L = exprK s (f cb s L) := by
  show (f cb s L).bind _ = _
  cases f cb s L <;> rfl
theorem exprK_ok {x : LV} : exprK s (.ok x L) = .ok (.next, s) L := rfl
theorem passS_ev : passS cb s L = .ok (.next, s) L := rfl
theorem breakS_ev : breakS cb s L = .ok (.brk, s) L := rfl
theorem contS_ev : contS cb s L = .ok (.cont, s) L := rfl
theorem ifS_ev {a b : LSt} : ifS t a b cb s L = ifK a b cb s (t cb s L) := by
  show (t cb s L).bind _ = _
  cases t cb s L with
  | fail => rfl
  | ok b L1 => cases b <;> rfl
theorem ifK_t {a b : LSt} : ifK a b cb s (.ok true L) = a cb s L := rfl
theorem ifK_f {a b : LSt} : ifK a b cb s (.ok false L) = b cb s L := rfl
theorem blkS_nil : blkS [] cb s L = .ok (.next, s) L := rfl
theorem blkS_cons {a : LSt} {r : List LSt} : blkS (a :: r) cb s L = blkK cb r (a cb s L) := by
  show (a cb s L).bind _ = _
  cases a cb s L with
  | fail => rfl
  | ok x L1 =>
    obtain ⟨fl, s1⟩ := x
    cases fl <;> rfl
theorem blkK_n {r : List LSt} : blkK cb r (.ok (.next, s) L) = blkS r cb s L := rfl
theorem blkK_r {r : List LSt} {v : LV} : blkK cb r (.ok (.ret v, s) L) = .ok (.ret v, s) L := rfl
theorem blkK_b {r : List LSt} : blkK cb r (.ok (.brk, s) L) = .ok (.brk, s) L := rfl
theorem blkK_c {r : List LSt} : blkK cb r (.ok (.cont, s) L) = .ok (.cont, s) L := rfl
theorem stT_nm {i : Nat} {x : LV} {s : Sl} : stT (.nm i) x s = some (s.set i (some x)) := by simp only [stT]
theorem stT_tp {ts : List Tg} {xs : List LV} {s : Sl} : stT (.tp ts) (.tup xs) s = stTs ts xs s := by simp only [stT]
theorem stTs_nil {s : Sl} : stTs [] [] s = some s := by simp only [stTs]
def stO (ts : List Tg) (xs : List LV) : Option Sl → Option Sl
  | some s => stTs ts xs s
  | none => none
theorem stTs_cons {t : Tg} {ts : List Tg} {x : LV} {xs : List LV} {s : Sl} : stTs (t :: ts) (x :: xs) s = stO ts xs (stT t x s) := by
  rw [stTs]
  cases stT t x s <;> rfl
theorem stO_s {ts : List Tg} {xs : List LV} {s : Sl} : stO ts xs (some s) = stTs ts xs s := rfl
theorem setL_lst {a : Nat} {k : Int} {v : LV} : setL (.ref a) (.int k) v L = match L[a]? with
    | some (.lst xs) => (match ixN xs.length k with | some j => .ok () (L.set a (.lst (xs.set j v))) | none => .fail)
    | some (.dct kvs) => if kDict kvs = true ∧ kvs.length < sizeLine then .ok () (L.set a (.dct (dput kvs (.k (.inl k)) v))) else .fail
    | _ => .fail := by
  unfold setL
  dsimp only
  generalize L[a]? = q
  cases q with
  | none => rfl
  | some o => cases o <;> rfl
theorem setL_str {a : Nat} {k : Str} {v : LV} : setL (.ref a) (.str k) v L = match L[a]? with
    | some (.dct kvs) => if kDict kvs = true ∧ kvs.length < sizeLine then .ok () (L.set a (.dct (dput kvs (.k (.inr k)) v))) else .fail
    | _ => .fail := by
  unfold setL
  dsimp only
  generalize L[a]? = q
  cases q with
  | none => rfl
  | some o => cases o <;> rfl
/-! operators -/
theorem add_int {i j : Int} {mu : Bool} : binL .Add mu (.int i) (.int j) L = .ok (.int (i + j)) L := rfl
theorem add_str {a b : Str} {mu : Bool} : binL .Add mu (.str a) (.str b) L = if a.length + b.length ≤ sizeLine then .ok (.str (a ++ b)) L else .fail := rfl
theorem add_tup {a b : List LV} {mu : Bool} : binL .Add mu (.tup a) (.tup b) L = if a ≠ [] ∧ a.length + b.length ≤ sizeLine then .ok (.tup (a ++ b)) L else .fail := rfl
theorem add_lst {a b : List LV} {mu : Bool} : binL .Add mu (.lst a) (.lst b) L = if a.length + b.length ≤ sizeLine then newL mu (a ++ b) L else .fail := rfl
theorem sub_int {i j : Int} {mu : Bool} : binL .Sub mu (.int i) (.int j) L = .ok (.int (i - j)) L := rfl
theorem mul_intE {i j : Int} {mu : Bool} : binL .Mult mu (.int i) (.int j) L = if mulOk i j then .ok (.int (i * j)) L else .fail := rfl
theorem div_int {i j : Int} {mu : Bool} : binL .FloorDiv mu (.int i) (.int j) L = if divOk j then .ok (.int (Int.fdiv i j)) L else .fail := rfl
theorem mod_intE {i j : Int} {mu : Bool} : binL .Mod mu (.int i) (.int j) L = if 0 < j then .ok (.int (i % j)) L else .fail := rfl
theorem pow_int {i j : Int} {mu : Bool} : binL .Pow mu (.int i) (.int j) L = if 0 ≤ j ∧ j ≤ 1000000 ∧ i.natAbs < 2 ^ 64 then .ok (.int (i ^ j.toNat)) L else .fail := rfl
theorem lt_intE {i j : Int} : cmpL .Lt L (.int i) (.int j) = some (decide (i < j)) := rfl
theorem gt_intE {i j : Int} : cmpL .Gt L (.int i) (.int j) = some (decide (j < i)) := rfl
theorem le_intE {i j : Int} : cmpL .LtE L (.int i) (.int j) = some (decide (i ≤ j)) := by
  show some (!decide (j < i)) = _
  by_cases h : j < i
  · rw [decide_eq_true h, decide_eq_false (show ¬ i ≤ j by omega)]; rfl
  · rw [decide_eq_false h, decide_eq_true (show i ≤ j by omega)]; rfl
theorem ge_intE {i j : Int} : cmpL .GtE L (.int i) (.int j) = some (decide (j ≤ i)) := by
  show some (!decide (i < j)) = _
  by_cases h : i < j
  · rw [decide_eq_true h, decide_eq_false (show ¬ j ≤ i by omega)]; rfl
  · rw [decide_eq_false h, decide_eq_true (show j ≤ i by omega)]; rfl
theorem eq_intE {i j : Int} : cmpL .Eq L (.int i) (.int j) = some (decide (i = j)) := by
  show eqL L (.int i) (.int j) = _
  unfold eqL toPD
  rfl
theorem ne_intE {i j : Int} : cmpL .NotEq L (.int i) (.int j) = some (!decide (i = j)) := by
  have := eq_intE (L := L) (i := i) (j := j)
  show (eqL L (.int i) (.int j)).map (!·) = _
  rw [show eqL L (.int i) (.int j) = some (decide (i = j)) from this]; rfl
theorem eq_strE {i j : Str} : cmpL .Eq L (.str i) (.str j) = some (decide (i = j)) := by
  show eqL L (.str i) (.str j) = _
  unfold eqL toPD
  dsimp only
  rw [if_pos (by simp [PyData.depth])]
  simp only [PyData.eqv]
  rfl
theorem ne_strE {i j : Str} : cmpL .NotEq L (.str i) (.str j) = some (!decide (i = j)) := by
  have := eq_strE (L := L) (i := i) (j := j)
  show (eqL L (.str i) (.str j)).map (!·) = _
  rw [show eqL L (.str i) (.str j) = some (decide (i = j)) from this]; rfl
theorem eq_blE {i j : Bool} : cmpL .Eq L (.bl i) (.bl j) = some (i == j) := by
  show eqL L (.bl i) (.bl j) = _
  unfold eqL toPD
  cases i <;> cases j <;> rfl
theorem ne_blE {i j : Bool} : cmpL .NotEq L (.bl i) (.bl j) = some (!(i == j)) := by
  have := eq_blE (L := L) (i := i) (j := j)
  show (eqL L (.bl i) (.bl j)).map (!·) = _
  rw [show eqL L (.bl i) (.bl j) = some (i == j) from this]; rfl
theorem is_nonE {x : LV} : cmpL .Is L x .non = some (isNon x) := rfl
theorem is_blE {i j : Bool} : cmpL .Is L (.bl i) (.bl j) = some (decide (i = j)) := rfl
theorem isnot_nonE {x : LV} : cmpL .IsNot L x .non = some (!isNon x) := rfl
theorem in_dctE {x y : LV} {kvs : List (DK × LV)} {k : DK} (h : dctOf L y = some kvs) (hk : toDK x = some k) (hd : kDict kvs = true) : cmpL .In L x y = some (dget kvs k).isSome := by
  show inL L x y = _
  unfold inL
  simp only [h, hk, hd, if_true]
theorem notin_dctE {x y : LV} {kvs : List (DK × LV)} {k : DK} (h : dctOf L y = some kvs) (hk : toDK x = some k) (hd : kDict kvs = true) : cmpL .NotIn L x y = some (!(dget kvs k).isSome) := by
  show (inL L x y).map (!·) = _
  rw [show inL L x y = some (dget kvs k).isSome from in_dctE h hk hd]; rfl
/-! subscripts -/
theorem idx_dct {x y : LV} {kvs : List (DK × LV)} {k : DK} (h : dctOf L x = some kvs) (hk : toDK y = some k) : idxL L x y = dget kvs k := by
  unfold idxL
  simp only [h, hk]
theorem idx_lst {xs : List LV} {i : Int} : idxL L (.lst xs) (.int i) = atI xs i := by
  unfold idxL dctOf itemsOf seqOf
  rfl
theorem idx_tup {xs : List LV} {i : Int} : idxL L (.tup xs) (.int i) = atI xs i := by
  unfold idxL dctOf itemsOf
  rfl
theorem idx_str {z : Str} {i : Int} : idxL L (.str z) (.int i) = if z.length ≤ sizeLine then (atI z.cps.toList i).map fun c => .str ⟨#[c]⟩ else none := by
  unfold idxL dctOf
  rfl
theorem idx_ref {j : Nat} {xs : List LV} {i : Int} (h : L[j]? = some (.lst xs)) : idxL L (.ref j) (.int i) = atI xs i := by
  unfold idxL
  simp only [dctOf, h, itemsOf, seqOf]
theorem atI_lit {xs : List LV} (n : Nat) {x : LV} (h : xs[n]? = some x) : atI xs (n : Int) = some x := by
  have hl := (List.getElem?_eq_some_iff.mp h).1
  unfold L2.atI L2.ixN
  have e : xs[n] = x := by rw [List.getElem?_eq_getElem hl] at h; exact Option.some.inj h
  simp [hl, e]
end
/-! defs -/
def Has (T : List (Str × FB)) (x : Str) (n : Nat) (z : Bool) (b : LSt) : Prop := T.lookup x = some ⟨n, z, b⟩
def finK (z : Bool) (L : List LO) : Res (Fl × Sl) → Res LV
  | .ok (.ret v, _) L1 => finB z L v L1
  | .ok (.next, _) L1 => finB z L .non L1
  | _ => .fail
theorem finK_r {z : Bool} {L L1 : List LO} {v : LV} {s : Sl} : finK z L (.ok (.ret v, s) L1) = finB z L v L1 := rfl
theorem finK_n {z : Bool} {L L1 : List LO} {s : Sl} : finK z L (.ok (.next, s) L1) = finB z L .non L1 := rfl
theorem call_of {T : List (Str × FB)} {x : Str} {n : Nat} {z : Bool} {b : LSt} (h : Has T x n z b) (k : Nat) (args : List LV) (L : List LO) :
    evCall T (k + 1) x args L = finK z L (b (evCall T k) (args.map some ++ List.replicate (n - args.length) none) L) := by
  show (match T.lookup x with | some fb => callB fb (evCall T k) args L | none => .fail) = _
  rw [show T.lookup x = some ⟨n, z, b⟩ from h]
  show (b (evCall T k) (args.map some ++ List.replicate (n - args.length) none) L).bind _ = _
  cases b (evCall T k) (args.map some ++ List.replicate (n - args.length) none) L with
  | fail => rfl
  | ok x L1 =>
    obtain ⟨fl, s1⟩ := x
    cases fl <;> rfl
theorem fin_f {L L1 : List LO} {v : LV} : finB false L v L1 = .ok v L1 := rfl
theorem fin_t {L L1 : List LO} {v v' : LV} (h : closeV L.length L1 8 v = some v') (hf : frontL L L1 = true) : finB true L v L1 = .ok v' L := by
  unfold finB
  simp only [h, hf, if_true]
end Ev

set_option maxHeartbeats 4000000
/-! Ev17: loops and comprehensions by invariants. -/
namespace Ev
open PySem PySem.Spec PyProof.Rows L2
section
variable {cb : CB} {t : Tg} {body : LSt} {get : Nat → List LO → Option (Option LV)}
/-- a turn of a loop: it goes on, breaks off, or returns -/
inductive Turn (Inv : Sl → List LO → Prop) (P : Res (Fl × Sl) → Prop) : Res (Fl × Sl) → Prop
  | next {s : Sl} {L : List LO} (h : Inv s L) : Turn Inv P (.ok (.next, s) L)
  | cont {s : Sl} {L : List LO} (h : Inv s L) : Turn Inv P (.ok (.cont, s) L)
  | brk {s : Sl} {L : List LO} (h : P (.ok (.next, s) L)) : Turn Inv P (.ok (.brk, s) L)
  | ret {s : Sl} {L : List LO} {v : LV} (h : P (.ok (.ret v, s) L)) : Turn Inv P (.ok (.ret v, s) L)
theorem loop_gen {P : Res (Fl × Sl) → Prop} (Inv : Nat → Sl → List LO → Prop) {n : Nat}
    (hstep : ∀ i s L, i < n → Inv i s L → ∃ x s1, get i L = some (some x) ∧ stT t x s = some s1 ∧ Turn (Inv (i + 1)) P (body cb s1 L))
    (hend : ∀ s L, Inv n s L → get n L = some none ∧ P (.ok (.next, s) L)) : ∀ (m i : Nat), i + m = n → ∀ {s : Sl} {L : List LO}, Inv i s L → P (loopW get t body cb (m + 1) i s L) := by
  intro m
  induction m with
  | zero =>
    intro i hi s L h
    have hi : i = n := by omega
    subst hi
    obtain ⟨h1, h2⟩ := hend s L h
    unfold loopW
    rw [h1]
    exact h2
  | succ m ih =>
    intro i hi s L h
    obtain ⟨x, s1, h1, h2, h3⟩ := hstep i s L (by omega) h
    unfold loopW
    simp only [h1, h2]
    revert h3
    generalize body cb s1 L = r
    intro h3
    cases h3 with
    | next q => exact ih (i + 1) (by omega) q
    | cont q => exact ih (i + 1) (by omega) q
    | brk q => exact q
    | ret q => exact q
theorem loop_all {P : Res (Fl × Sl) → Prop} (Inv : Nat → Sl → List LO → Prop) {n : Nat} {s : Sl} {L : List LO} (h0 : Inv 0 s L)
    (hstep : ∀ i s L, i < n → Inv i s L → ∃ x s1, get i L = some (some x) ∧ stT t x s = some s1 ∧ Turn (Inv (i + 1)) P (body cb s1 L))
    (hend : ∀ s L, Inv n s L → get n L = some none ∧ P (.ok (.next, s) L)) : P (loopW get t body cb (n + 1) 0 s L) := loop_gen Inv hstep hend n 0 (by omega) h0
/-- a list that nobody changes -/
theorem loop_seq {P : Res (Fl × Sl) → Prop} (Inv : Nat → Sl → List LO → Prop) {xs : List LV} {s : Sl} {L : List LO} (h0 : Inv 0 s L)
    (hstep : ∀ i s L x, xs[i]? = some x → Inv i s L → ∃ s1, stT t x s = some s1 ∧ Turn (Inv (i + 1)) P (body cb s1 L))
    (hend : ∀ s L, Inv xs.length s L → P (.ok (.next, s) L)) : P (loopW (seqG xs).get t body cb (seqG xs).fuel 0 s L) := by
  refine loop_all (n := xs.length) Inv h0 (fun i s L hi h => ?_) (fun s L h => ⟨?_, hend s L h⟩)
  · obtain ⟨s1, h1, h2⟩ := hstep i s L xs[i] (List.getElem?_eq_getElem hi) h
    exact ⟨xs[i], s1, by show some xs[i]? = _; rw [List.getElem?_eq_getElem hi], h1, h2⟩
  · show some xs[xs.length]? = _
    rw [List.getElem?_eq_none (Nat.le_refl _)]
theorem rangeL_get {lo : Int} {n i : Nat} {x : LV} (h : (rangeL lo n)[i]? = some x) : i < n ∧ x = .int (lo + i) := by
  unfold rangeL at h
  rw [List.getElem?_map] at h
  obtain ⟨k, h1, h2⟩ := Option.map_eq_some_iff.mp h
  have hj : i < n := by
    have := (List.getElem?_eq_some_iff.mp h1).1
    simpa using this
  rw [List.getElem?_range hj] at h1
  cases h1
  exact ⟨hj, h2.symm⟩
theorem rangeL_length {lo : Int} {n : Nat} : (rangeL lo n).length = n := by unfold rangeL; simp
/-- for i in range(e) -/
theorem for_range {P : Res (Fl × Sl) → Prop} (Inv : Nat → Sl → List LO → Prop) {f : LE} {s : Sl} {L L1 : List LO} {j : Int} (hf : f cb s L = .ok (.int j) L1) (hj : j < 2 ^ 62) (h0 : Inv 0 s L1)
    (hstep : ∀ (i : Nat) s L, i < j.toNat → Inv i s L → ∃ s1, stT t (.int i) s = some s1 ∧ Turn (Inv (i + 1)) P (body cb s1 L))
    (hend : ∀ s L, Inv j.toNat s L → P (.ok (.next, s) L)) (hj0 : -(2 ^ 62) ≤ j := by omega) : P (forE (rngS [f]) t body cb s L) := by
  have e : forE (rngS [f]) t body cb s L = loopW (seqG (rangeL 0 j.toNat)).get t body cb (seqG (rangeL 0 j.toNat)).fuel 0 s L1 := by
    show ((argsE cb s [f] L).bind _).bind _ = _
    rw [argsE_cons, hf, aK1_ok, argsE_nil, aK2_ok, Res.bind_ok]
    dsimp only
    rw [if_pos (show inRange j from ⟨hj0, hj⟩), Res.bind_ok]
  rw [e]
  refine loop_seq Inv h0 (fun i s L x hx h => ?_) (fun s L h => hend s L (by rw [rangeL_length] at h; exact h))
  obtain ⟨hi, rfl⟩ := rangeL_get hx
  rw [Int.zero_add]
  exact hstep i s L hi h
theorem for_range2 {P : Res (Fl × Sl) → Prop} (Inv : Nat → Sl → List LO → Prop) {f g : LE} {s : Sl} {L L1 L2 : List LO} {a b : Int} (hf : f cb s L = .ok (.int a) L1) (hg : g cb s L1 = .ok (.int b) L2) (ha : -(2 ^ 62) ≤ a ∧ a < 2 ^ 62) (hb : -(2 ^ 62) ≤ b ∧ b < 2 ^ 62) (h0 : Inv 0 s L2)
    (hstep : ∀ (i : Nat) s L, i < (b - a).toNat → Inv i s L → ∃ s1, stT t (.int (a + i)) s = some s1 ∧ Turn (Inv (i + 1)) P (body cb s1 L))
    (hend : ∀ s L, Inv (b - a).toNat s L → P (.ok (.next, s) L)) : P (forE (rngS [f, g]) t body cb s L) := by
  have e : forE (rngS [f, g]) t body cb s L = loopW (seqG (rangeL a (b - a).toNat)).get t body cb (seqG (rangeL a (b - a).toNat)).fuel 0 s L2 := by
    show ((argsE cb s [f, g] L).bind _).bind _ = _
    rw [argsE_cons, hf, aK1_ok, argsE_cons, hg, aK1_ok, argsE_nil, aK2_ok, aK2_ok, Res.bind_ok]
    dsimp only
    rw [if_pos (show inRange a ∧ inRange b from ⟨ha, hb⟩), Res.bind_ok]
  rw [e]
  refine loop_seq Inv h0 (fun i s L x hx h => ?_) (fun s L h => hend s L (by rw [rangeL_length] at h; exact h))
  obtain ⟨hi, rfl⟩ := rangeL_get hx
  exact hstep i s L hi h
/-- for x in a list or tuple that is a tree -/
theorem for_val {P : Res (Fl × Sl) → Prop} (Inv : Nat → Sl → List LO → Prop) {f : LE} {s : Sl} {L L1 : List LO} {v : LV} {xs : List LV} (hf : f cb s L = .ok v L1) (hv : v = .lst xs ∨ v = .tup xs) (h0 : Inv 0 s L1)
    (hstep : ∀ i s L x, xs[i]? = some x → Inv i s L → ∃ s1, stT t x s = some s1 ∧ Turn (Inv (i + 1)) P (body cb s1 L))
    (hend : ∀ s L, Inv xs.length s L → P (.ok (.next, s) L)) : P (forE (valS f) t body cb s L) := by
  have e : forE (valS f) t body cb s L = loopW (seqG xs).get t body cb (seqG xs).fuel 0 s L1 := by
    show ((f cb s L).bind _).bind _ = _
    rw [hf, Res.bind_ok]
    rcases hv with rfl | rfl <;> rfl
  rw [e]
  exact loop_seq Inv h0 hstep hend
theorem forN_plain {i : Nat} {s : Sl} {L : List LO} {v : LV} {xs : List LV} (hs : s[i]? = some (some v)) (hv : v = .lst xs ∨ v = .tup xs) : forN i t body cb s L = forE (valS (varE i)) t body cb s L := by
  unfold forN
  rw [hs]
  rcases hv with rfl | rfl <;> rfl
theorem for_name {P : Res (Fl × Sl) → Prop} (Inv : Nat → Sl → List LO → Prop) {j : Nat} {s : Sl} {L : List LO} {v : LV} {xs : List LV} (hs : s[j]? = some (some v)) (hv : v = .lst xs ∨ v = .tup xs) (h0 : Inv 0 s L)
    (hstep : ∀ i s L x, xs[i]? = some x → Inv i s L → ∃ s1, stT t x s = some s1 ∧ Turn (Inv (i + 1)) P (body cb s1 L))
    (hend : ∀ s L, Inv xs.length s L → P (.ok (.next, s) L)) : P (forN j t body cb s L) := by
  rw [forN_plain hs hv]
  exact for_val Inv (by rw [varE_ev, hs]; rfl) hv h0 hstep hend
theorem forN_ref {i a : Nat} {s : Sl} {L : List LO} {xs : List LV} (hs : s[i]? = some (some (.ref a))) (ha : L[a]? = some (.lst xs)) : forN i t body cb s L = loopW (lrefG a xs.length idMk).get t body cb (xs.length + 1) 0 s L := by
  unfold forN
  rw [hs]
  dsimp only
  rw [ha]
  dsimp only
  show ((varE i cb s L).bind _).bind _ = _
  rw [varE_ev, hs, show optV L ((some (some (LV.ref a))).bind id) = .ok (.ref a) L from rfl, Res.bind_ok]
  unfold walkL
  dsimp only
  rw [ha]
  rfl
/-- for x in a list of the logical heap that stays as it is -/
theorem for_ref {P : Res (Fl × Sl) → Prop} (Inv : Nat → Sl → List LO → Prop) {j a : Nat} {s : Sl} {L : List LO} {xs : List LV} (hs : s[j]? = some (some (.ref a))) (ha : L[a]? = some (.lst xs)) (h0 : Inv 0 s L)
    (keep : ∀ i s L, Inv i s L → L[a]? = some (.lst xs))
    (hstep : ∀ i s L x, xs[i]? = some x → Inv i s L → ∃ s1, stT t x s = some s1 ∧ Turn (Inv (i + 1)) P (body cb s1 L))
    (hend : ∀ s L, Inv xs.length s L → P (.ok (.next, s) L)) : P (forN j t body cb s L) := by
  rw [forN_ref hs ha]
  refine loop_all (n := xs.length) Inv h0 (fun i s L hi h => ?_) (fun s L h => ⟨?_, hend s L h⟩)
  · obtain ⟨s1, h1, h2⟩ := hstep i s L xs[i] (List.getElem?_eq_getElem hi) h
    refine ⟨xs[i], s1, ?_, h1, h2⟩
    show (match L[a]? with | some (.lst xs) => some (xs[i]?.map (idMk i)) | _ => none) = _
    rw [keep i s L h]
    dsimp only
    rw [List.getElem?_eq_getElem hi]; rfl
  · have q : ∀ m : Nat, (match L[a]? with | some (.lst xs) => some (xs[m]?.map (idMk m)) | _ => none) = some (xs[m]?.map (idMk m)) := fun m => by rw [keep _ s L h]
    show (match L[a]? with | some (.lst ys) => some (ys[xs.length]?.map (idMk xs.length)) | _ => none) = _
    rw [q, List.getElem?_eq_none (Nat.le_refl _)]; rfl
theorem keysL_get {kvs : List (DK × LV)} {i : Nat} {x : LV} (h : (keysL kvs)[i]? = some x) : ∃ k v, kvs[i]? = some (k, v) ∧ x = k.toLV := by
  unfold keysL at h
  rw [List.getElem?_map] at h
  obtain ⟨⟨k, v⟩, h1, h2⟩ := Option.map_eq_some_iff.mp h
  exact ⟨k, v, h1, h2.symm⟩
theorem keysL_length {kvs : List (DK × LV)} : (keysL kvs).length = kvs.length := by unfold keysL; simp
/-- for k in a dict that is a tree -/
theorem for_dct {P : Res (Fl × Sl) → Prop} (Inv : Nat → Sl → List LO → Prop) {j : Nat} {s : Sl} {L : List LO} {kvs : List (DK × LV)} (hs : s[j]? = some (some (.dct kvs))) (hk : kDict kvs = true) (h0 : Inv 0 s L)
    (hstep : ∀ i s L k v, kvs[i]? = some (k, v) → Inv i s L → ∃ s1, stT t k.toLV s = some s1 ∧ Turn (Inv (i + 1)) P (body cb s1 L))
    (hend : ∀ s L, Inv kvs.length s L → P (.ok (.next, s) L)) : P (forN j t body cb s L) := by
  have e : forN j t body cb s L = loopW (seqG (keysL kvs)).get t body cb (seqG (keysL kvs)).fuel 0 s L := by
    unfold forN
    rw [hs]
    dsimp only
    rw [if_pos hk]
  rw [e]
  refine loop_seq Inv h0 (fun i s L x hx h => ?_) (fun s L h => hend s L (by rw [keysL_length] at h; exact h))
  obtain ⟨k, v, h1, rfl⟩ := keysL_get hx
  exact hstep i s L k v h1 h
/-- for k in a dict of the logical heap: it is locked the while -/
theorem for_dref {P : Res (Fl × Sl) → Prop} (Inv : Nat → Sl → List LO → Prop) {j a : Nat} {s : Sl} {L : List LO} {kvs : List (DK × LV)} (hs : s[j]? = some (some (.ref a))) (ha : L[a]? = some (.dct kvs)) (hk : kDict kvs = true) (h0 : Inv 0 s (L.set a (.lkd kvs)))
    (hstep : ∀ i s L k v, kvs[i]? = some (k, v) → Inv i s L → ∃ s1, stT t k.toLV s = some s1 ∧ Turn (Inv (i + 1)) (fun r => ∃ z L', r = .ok z L' ∧ L'[a]? = some (.lkd kvs) ∧ P (.ok z (L'.set a (.dct kvs)))) (body cb s1 L))
    (hend : ∀ s L, Inv kvs.length s L → L[a]? = some (.lkd kvs) ∧ P (.ok (.next, s) (L.set a (.dct kvs)))) : P (forN j t body cb s L) := by
  have e : forN j t body cb s L = unl a (loopW (seqG (keysL kvs)).get t body cb (seqG (keysL kvs)).fuel 0 s (L.set a (.lkd kvs))) := by
    unfold forN
    rw [hs]
    dsimp only
    rw [ha]
    dsimp only
    rw [if_pos hk]
  rw [e]
  have := loop_seq (P := fun r => ∃ z L', r = .ok z L' ∧ L'[a]? = some (.lkd kvs) ∧ P (.ok z (L'.set a (.dct kvs)))) Inv (t := t) (body := body) (cb := cb) (xs := keysL kvs) h0 (fun i s L x hx h => by
    obtain ⟨k, v, h1, rfl⟩ := keysL_get hx
    exact hstep i s L k v h1 h) (fun s L h => by
    rw [keysL_length] at h
    obtain ⟨h1, h2⟩ := hend s L h
    exact ⟨_, L, rfl, h1, h2⟩)
  obtain ⟨z, L', e1, e2, e3⟩ := this
  rw [e1]
  unfold unl
  rw [Res.bind_ok, e2]
  exact e3
/-- while -/
theorem while_inv {tt : LT} {P : Res (Fl × Sl) → Prop} (Inv : Nat → Sl → List LO → Prop)
    (hstep : ∀ m s L, Inv m s L → (∃ L1, tt cb s L = .ok false L1 ∧ P (.ok (.next, s) L1)) ∨ (∃ L1, tt cb s L = .ok true L1 ∧ Turn (fun s L => ∃ m', m' < m ∧ Inv m' s L) P (body cb s L1))) :
    ∀ (w m : Nat), m < w → ∀ {s : Sl} {L : List LO}, Inv m s L → P (whileS w tt body cb s L) := by
  intro w
  induction w with
  | zero => intro m hm; omega
  | succ w ih =>
    intro m hm s L h
    show P (whileW tt body cb (w + 1) s L)
    unfold whileW
    rcases hstep m s L h with ⟨L1, h1, h2⟩ | ⟨L1, h1, h2⟩
    · rw [h1]; exact h2
    · rw [h1, Res.bind_ok]
      dsimp only
      revert h2
      generalize body cb s L1 = r
      intro h2
      cases h2 with
      | next q => obtain ⟨m', h3, h4⟩ := q; exact ih m' (by omega) h4
      | cont q => obtain ⟨m', h3, h4⟩ := q; exact ih m' (by omega) h4
      | brk q => exact q
      | ret q => exact q
end
/-! ### comprehensions -/
section
variable {cb : CB} {t : Tg} {ft : LT} {fe fk : LE} {get : Nat → List LO → Option (Option LV)} {s : Sl}
theorem lcW_gen (Inv : Nat → List LV → List LO → Prop) {n : Nat}
    (hstep : ∀ i ys L, i < n → Inv i ys L → ∃ x s1, get i L = some (some x) ∧ stT t x s = some s1 ∧ ∃ b L1, ft cb s1 L = .ok b L1 ∧ (match b with | false => Inv (i + 1) ys L1 | true => ∃ y L2, fe cb s1 L1 = .ok y L2 ∧ Inv (i + 1) (ys ++ [y]) L2))
    (hend : ∀ ys L, Inv n ys L → get n L = some none) : ∀ (m i : Nat), i + m = n → ∀ {ys : List LV} {L : List LO}, Inv i ys L → ∃ zs L', lcW get t ft fe cb s (m + 1) i L = .ok zs L' ∧ Inv n (ys ++ zs) L' := by
  intro m
  induction m with
  | zero =>
    intro i hi ys L h
    have hi : i = n := by omega
    subst hi
    unfold lcW
    rw [hend ys L h]
    exact ⟨[], L, rfl, by rw [List.append_nil]; exact h⟩
  | succ m ih =>
    intro i hi ys L h
    obtain ⟨x, s1, h1, h2, b, L1, h3, h4⟩ := hstep i ys L (by omega) h
    unfold lcW
    simp only [h1, h2]
    rw [h3, Res.bind_ok]
    cases b with
    | false => exact ih (i + 1) (by omega) h4
    | true =>
      obtain ⟨y, L2, h5, h6⟩ := h4
      obtain ⟨zs, L', h7, h8⟩ := ih (i + 1) (by omega) h6
      dsimp only
      rw [h5, Res.bind_ok, h7, Res.bind_ok]
      exact ⟨y :: zs, L', rfl, by rw [List.append_assoc, List.singleton_append] at h8; exact h8⟩
/-- over a list: by an invariant -/
theorem lcX_inv (Inv : Nat → List LV → List LO → Prop) {xs : List LV} {own : List Nat} {mu : Bool} {L : List LO} (h0 : Inv 0 [] L)
    (hstep : ∀ i ys L x, xs[i]? = some x → Inv i ys L → ∃ s1, stT t x (wipeL s own) = some s1 ∧ ∃ b L1, ft cb s1 L = .ok b L1 ∧ (match b with | false => Inv (i + 1) ys L1 | true => ∃ y L2, fe cb s1 L1 = .ok y L2 ∧ Inv (i + 1) (ys ++ [y]) L2))
    (hlen : ∀ ys L, Inv xs.length ys L → ys.length < sizeLine) : ∃ ys L', lcX (seqG xs) t ft fe own mu cb s L = newL mu ys L' ∧ Inv xs.length ys L' := by
  obtain ⟨zs, L', h1, h2⟩ := lcW_gen (get := (seqG xs).get) (t := t) (ft := ft) (fe := fe) (cb := cb) (s := wipeL s own) Inv (n := xs.length) (fun i ys L hi h => by
    obtain ⟨s1, h1, h2⟩ := hstep i ys L xs[i] (List.getElem?_eq_getElem hi) h
    exact ⟨xs[i], s1, by show some xs[i]? = _; rw [List.getElem?_eq_getElem hi], h1, h2⟩) (fun ys L h => by
    show some xs[xs.length]? = _
    rw [List.getElem?_eq_none (Nat.le_refl _)]) xs.length 0 (by omega) h0
  rw [List.nil_append] at h2
  refine ⟨zs, L', ?_, h2⟩
  unfold lcX
  show (lcW (seqG xs).get t ft fe cb (wipeL s own) (xs.length + 1) 0 L).bind _ = _
  rw [h1, Res.bind_ok]
  exact if_pos (hlen zs L' h2)
/-- .. what is pure -/
theorem lcX_map {xs : List LV} {own : List Nat} {mu : Bool} {L : List LO} (p : LV → Bool) (g : LV → LV) (hl : xs.length < sizeLine)
    (h : ∀ x ∈ xs, ∃ s1, stT t x (wipeL s own) = some s1 ∧ ft cb s1 L = .ok (p x) L ∧ (p x = true → fe cb s1 L = .ok (g x) L)) : lcX (seqG xs) t ft fe own mu cb s L = newL mu ((xs.filter p).map g) L := by
  obtain ⟨ys, L', h1, h2, h3⟩ := lcX_inv (t := t) (ft := ft) (fe := fe) (cb := cb) (s := s) (mu := mu) (own := own) (xs := xs) (L := L) (fun i ys L' => ys = ((xs.take i).filter p).map g ∧ L' = L) ⟨rfl, rfl⟩ (fun i ys L' x hx hI => by
    obtain ⟨rfl, rfl⟩ := hI
    obtain ⟨s1, h1, h2, h3⟩ := h x (List.mem_of_getElem? hx)
    refine ⟨s1, h1, p x, L', h2, ?_⟩
    have e : xs.take (i + 1) = xs.take i ++ [x] := by rw [List.take_add_one, hx]; rfl
    cases hp : p x with
    | false =>
      refine ⟨?_, rfl⟩
      rw [e, List.filter_append]
      simp [hp]
    | true =>
      refine ⟨g x, L', h3 hp, ?_, rfl⟩
      rw [e, List.filter_append]
      simp [hp]) (fun ys L' hI => by
    obtain ⟨rfl, _⟩ := hI
    rw [List.length_map]
    exact Nat.lt_of_le_of_lt (List.length_filter_le _ _) (by rw [List.take_length]; exact hl))
  rw [h1, h2, h3, List.take_length]
theorem dcW_gen (Inv : Nat → List (DK × LV) → List LO → Prop) {n : Nat}
    (hstep : ∀ i acc L, i < n → Inv i acc L → ∃ x s1, get i L = some (some x) ∧ stT t x s = some s1 ∧ ∃ b L1, ft cb s1 L = .ok b L1 ∧ (match b with | false => Inv (i + 1) acc L1 | true => ∃ k L2 y L3 dk, fk cb s1 L1 = .ok k L2 ∧ fe cb s1 L2 = .ok y L3 ∧ toDK k = some dk ∧ acc.length < sizeLine ∧ Inv (i + 1) (dput acc dk y) L3))
    (hend : ∀ acc L, Inv n acc L → get n L = some none) : ∀ (m i : Nat), i + m = n → ∀ {acc : List (DK × LV)} {L : List LO}, Inv i acc L → ∃ zs L', dcW get t ft fk fe cb s (m + 1) i acc L = .ok zs L' ∧ Inv n zs L' := by
  intro m
  induction m with
  | zero =>
    intro i hi acc L h
    have hi : i = n := by omega
    subst hi
    unfold dcW
    rw [hend acc L h]
    exact ⟨acc, L, rfl, h⟩
  | succ m ih =>
    intro i hi acc L h
    obtain ⟨x, s1, h1, h2, b, L1, h3, h4⟩ := hstep i acc L (by omega) h
    unfold dcW
    simp only [h1, h2]
    rw [h3, Res.bind_ok]
    cases b with
    | false => exact ih (i + 1) (by omega) h4
    | true =>
      obtain ⟨k, L2, y, L3, dk, h5, h6, h7, h8, h9⟩ := h4
      dsimp only
      rw [h5, Res.bind_ok, h6, Res.bind_ok, h7]
      dsimp only
      rw [if_pos h8]
      exact ih (i + 1) (by omega) h9
theorem dcX_inv (Inv : Nat → List (DK × LV) → List LO → Prop) {xs : List LV} {own : List Nat} {mu : Bool} {L : List LO} (h0 : Inv 0 [] L)
    (hstep : ∀ i acc L x, xs[i]? = some x → Inv i acc L → ∃ s1, stT t x (wipeL s own) = some s1 ∧ ∃ b L1, ft cb s1 L = .ok b L1 ∧ (match b with | false => Inv (i + 1) acc L1 | true => ∃ k L2 y L3 dk, fk cb s1 L1 = .ok k L2 ∧ fe cb s1 L2 = .ok y L3 ∧ toDK k = some dk ∧ acc.length < sizeLine ∧ Inv (i + 1) (dput acc dk y) L3)) :
    ∃ zs L', dcX (seqG xs) t ft fk fe own mu cb s L = newD mu zs L' ∧ Inv xs.length zs L' := by
  obtain ⟨zs, L', h1, h2⟩ := dcW_gen (get := (seqG xs).get) (t := t) (ft := ft) (fk := fk) (fe := fe) (cb := cb) (s := wipeL s own) Inv (n := xs.length) (fun i ys L hi h => by
    obtain ⟨s1, h1, h2⟩ := hstep i ys L xs[i] (List.getElem?_eq_getElem hi) h
    exact ⟨xs[i], s1, by show some xs[i]? = _; rw [List.getElem?_eq_getElem hi], h1, h2⟩) (fun ys L h => by
    show some xs[xs.length]? = _
    rw [List.getElem?_eq_none (Nat.le_refl _)]) xs.length 0 (by omega) h0
  refine ⟨zs, L', ?_, h2⟩
  unfold dcX
  show (dcW (seqG xs).get t ft fk fe cb (wipeL s own) (xs.length + 1) 0 [] L).bind _ = _
  rw [h1, Res.bind_ok]
theorem dput_new {kvs : List (DK × LV)} {k : DK} {v : LV} (h : ∀ p ∈ kvs, p.1 ≠ k) : dput kvs k v = kvs ++ [(k, v)] := by
  unfold dput
  rw [if_neg]
  rw [List.any_eq_true]
  rintro ⟨p, hp, e⟩
  exact h p hp (of_decide_eq_true e)
/-- .. different keys, what is pure -/
theorem dcX_map {xs : List LV} {own : List Nat} {mu : Bool} {L : List LO} (k : LV → DK) (g : LV → LV) (hl : xs.length < sizeLine) (hn : (xs.map k).Nodup)
    (h : ∀ x ∈ xs, ∃ s1, stT t x (wipeL s own) = some s1 ∧ ft cb s1 L = .ok true L ∧ (∃ kv, fk cb s1 L = .ok kv L ∧ toDK kv = some (k x)) ∧ fe cb s1 L = .ok (g x) L) : dcX (seqG xs) t ft fk fe own mu cb s L = newD mu (xs.map fun x => (k x, g x)) L := by
  obtain ⟨ys, L', h1, h2, h3⟩ := dcX_inv (t := t) (ft := ft) (fk := fk) (fe := fe) (cb := cb) (s := s) (mu := mu) (own := own) (xs := xs) (L := L) (fun i ys L' => ys = (xs.take i).map (fun x => (k x, g x)) ∧ L' = L) ⟨rfl, rfl⟩ (fun i ys L' x hx hI => by
    obtain ⟨rfl, rfl⟩ := hI
    obtain ⟨s1, h1, h2, ⟨kv, h3, h4⟩, h5⟩ := h x (List.mem_of_getElem? hx)
    refine ⟨s1, h1, true, L', h2, kv, L', g x, L', k x, h3, h5, h4, ?_, ?_, rfl⟩
    · rw [List.length_map, List.length_take]
      exact Nat.lt_of_le_of_lt (Nat.min_le_right _ _) hl
    · have e : xs.take (i + 1) = xs.take i ++ [x] := by rw [List.take_add_one, hx]; rfl
      rw [e, List.map_append, dput_new]
      · rfl
      · intro p hp
        obtain ⟨z, hz, rfl⟩ := List.mem_map.mp hp
        obtain ⟨hi, ex⟩ := List.getElem?_eq_some_iff.mp hx
        obtain ⟨j, hj, ez⟩ := List.getElem_of_mem hz
        rw [List.length_take] at hj
        rw [List.getElem_take] at ez
        intro e2
        have e2 : k z = k x := e2
        have q := (List.getElem_inj (i := j) (j := i) (h₀ := by rw [List.length_map]; omega) (h₁ := by rw [List.length_map]; omega) hn).mp (by rw [List.getElem_map, List.getElem_map, ez, ex, e2])
        omega)
  rw [h1, h2, h3, List.take_length]
/-! sources -/
theorem lcE_rng {f : LE} {own : List Nat} {mu : Bool} {L L1 : List LO} {j : Int} (hf : f cb s L = .ok (.int j) L1) (hj : j < 2 ^ 62) (hj0 : -(2 ^ 62) ≤ j) : lcE (rngS [f]) t ft fe own mu cb s L = lcX (seqG (rangeL 0 j.toNat)) t ft fe own mu cb s L1 := by
  show ((argsE cb s [f] L).bind _).bind _ = _
  rw [argsE_cons, hf, aK1_ok, argsE_nil, aK2_ok, Res.bind_ok]
  dsimp only
  rw [if_pos (show inRange j from ⟨hj0, hj⟩), Res.bind_ok]
theorem lcE_val {f : LE} {own : List Nat} {mu : Bool} {L L1 : List LO} {v : LV} {xs : List LV} (hf : f cb s L = .ok v L1) (hv : v = .lst xs ∨ v = .tup xs) : lcE (valS f) t ft fe own mu cb s L = lcX (seqG xs) t ft fe own mu cb s L1 := by
  show ((f cb s L).bind _).bind _ = _
  rw [hf, Res.bind_ok]
  rcases hv with rfl | rfl <;> rfl
theorem dcE_val {f : LE} {own : List Nat} {mu : Bool} {L L1 : List LO} {v : LV} {xs : List LV} (hf : f cb s L = .ok v L1) (hv : v = .lst xs ∨ v = .tup xs) : dcE (valS f) t ft fk fe own mu cb s L = dcX (seqG xs) t ft fk fe own mu cb s L1 := by
  show ((f cb s L).bind _).bind _ = _
  rw [hf, Res.bind_ok]
  rcases hv with rfl | rfl <;> rfl
theorem lcN_val {i : Nat} {own : List Nat} {mu : Bool} {L : List LO} {v : LV} {xs : List LV} (hs : s[i]? = some (some v)) (hv : v = .lst xs ∨ v = .tup xs) : lcN i t ft fe own mu cb s L = lcX (seqG xs) t ft fe own mu cb s L := by
  have e : lcN i t ft fe own mu cb s L = lcE (valS (varE i)) t ft fe own mu cb s L := by
    unfold lcN overN
    rw [hs]
    rcases hv with rfl | rfl <;> rfl
  rw [e]
  exact lcE_val (by rw [varE_ev, hs]; rfl) hv
theorem lcN_dct {i : Nat} {own : List Nat} {mu : Bool} {L : List LO} {kvs : List (DK × LV)} (hs : s[i]? = some (some (.dct kvs))) (hk : kDict kvs = true) : lcN i t ft fe own mu cb s L = lcX (seqG (keysL kvs)) t ft fe own mu cb s L := by
  unfold lcN overN
  rw [hs]
  dsimp only
  rw [if_pos hk]
theorem lcN_dref {i a : Nat} {own : List Nat} {mu : Bool} {L : List LO} {kvs : List (DK × LV)} (hs : s[i]? = some (some (.ref a))) (ha : L[a]? = some (.dct kvs)) (hk : kDict kvs = true) : lcN i t ft fe own mu cb s L = unl a (lcX (seqG (keysL kvs)) t ft fe own mu cb s (L.set a (.lkd kvs))) := by
  unfold lcN overN
  rw [hs]
  dsimp only
  rw [ha]
  dsimp only
  rw [if_pos hk]
theorem lcN_lkd {i a : Nat} {own : List Nat} {mu : Bool} {L : List LO} {kvs : List (DK × LV)} (hs : s[i]? = some (some (.ref a))) (ha : L[a]? = some (.lkd kvs)) (hk : kDict kvs = true) : lcN i t ft fe own mu cb s L = lcX (seqG (keysL kvs)) t ft fe own mu cb s L := by
  unfold lcN overN
  rw [hs]
  dsimp only
  rw [ha]
  dsimp only
  show ((varE i cb s L).bind _).bind _ = _
  rw [varE_ev, hs, show optV L ((some (some (LV.ref a))).bind id) = .ok (.ref a) L from rfl, Res.bind_ok]
  unfold walkL
  dsimp only
  rw [ha]
  dsimp only
  rw [if_pos hk]
  rfl
theorem dcN_dct {i : Nat} {own : List Nat} {mu : Bool} {L : List LO} {kvs : List (DK × LV)} (hs : s[i]? = some (some (.dct kvs))) (hk : kDict kvs = true) : dcN i t ft fk fe own mu cb s L = dcX (seqG (keysL kvs)) t ft fk fe own mu cb s L := by
  unfold dcN overN
  rw [hs]
  dsimp only
  rw [if_pos hk]
theorem dcN_val {i : Nat} {own : List Nat} {mu : Bool} {L : List LO} {v : LV} {xs : List LV} (hs : s[i]? = some (some v)) (hv : v = .lst xs ∨ v = .tup xs) : dcN i t ft fk fe own mu cb s L = dcX (seqG xs) t ft fk fe own mu cb s L := by
  have e : dcN i t ft fk fe own mu cb s L = dcE (valS (varE i)) t ft fk fe own mu cb s L := by
    unfold dcN overN
    rw [hs]
    rcases hv with rfl | rfl <;> rfl
  rw [e]
  exact dcE_val (by rw [varE_ev, hs]; rfl) hv
end
end Ev

set_option maxHeartbeats 4000000
/-! Ev18: the laws' helpers, numbers, the pool. -/
namespace Ev
open PySem PySem.Spec PyProof.Rows L2
/-! ratio(p, q) : 0 p, 1 q, 2 shared -/
def b_p_ratio : LSt := (blkS [
  asgN 2 (biE .gcd false [(varE 0), (varE 1)]),
  ifS (testB (cmpE .Lt (varE 1) (cE (.int 0)))) (blkS [
    asgN 2 (negE (varE 2))]) (blkS []),
  retE (tupE [(binE .FloorDiv false (varE 0) (varE 2)), (binE .FloorDiv false (varE 1) (varE 2))])])
/-! added(one, other) : 0 one, 1 other -/
def b_p_added : LSt := (blkS [
  retE (callE "ratio" [(binE .Add false (binE .Mult false (idxE (varE 0) (cE (.int 0))) (idxE (varE 1) (cE (.int 1)))) (binE .Mult false (idxE (varE 1) (cE (.int 0))) (idxE (varE 0) (cE (.int 1))))), (binE .Mult false (idxE (varE 0) (cE (.int 1))) (idxE (varE 1) (cE (.int 1))))])])
/-! less(one, other) : 0 one, 1 other -/
def b_p_less : LSt := (blkS [
  retE (callE "ratio" [(binE .Sub false (binE .Mult false (idxE (varE 0) (cE (.int 0))) (idxE (varE 1) (cE (.int 1)))) (binE .Mult false (idxE (varE 1) (cE (.int 0))) (idxE (varE 0) (cE (.int 1))))), (binE .Mult false (idxE (varE 0) (cE (.int 1))) (idxE (varE 1) (cE (.int 1))))])])
/-! times(one, other) : 0 one, 1 other -/
def b_p_times : LSt := (blkS [
  retE (callE "ratio" [(binE .Mult false (idxE (varE 0) (cE (.int 0))) (idxE (varE 1) (cE (.int 0)))), (binE .Mult false (idxE (varE 0) (cE (.int 1))) (idxE (varE 1) (cE (.int 1))))])])
/-! over(one, other) : 0 one, 1 other -/
def b_p_over : LSt := (blkS [
  retE (callE "ratio" [(binE .Mult false (idxE (varE 0) (cE (.int 0))) (idxE (varE 1) (cE (.int 1)))), (binE .Mult false (idxE (varE 0) (cE (.int 1))) (idxE (varE 1) (cE (.int 0))))])])
/-! sign(one) : 0 one -/
def b_p_sign : LSt := (blkS [
  ifS (testB (cmpE .Eq (idxE (varE 0) (cE (.int 0))) (cE (.int 0)))) (blkS [
    retE (cE (.int 0))]) (blkS []),
  retE (ifE (testB (cmpE .Gt (idxE (varE 0) (cE (.int 0))) (cE (.int 0)))) (cE (.int 1)) (negE (cE (.int 1))))])
/-! below(one, other) : 0 one, 1 other -/
def b_p_below : LSt := (blkS [
  retE (cmpE .Lt (binE .Mult false (idxE (varE 0) (cE (.int 0))) (idxE (varE 1) (cE (.int 1)))) (binE .Mult false (idxE (varE 1) (cE (.int 0))) (idxE (varE 0) (cE (.int 1)))))])
/-! _law_mixed(number, place) : 0 number, 1 place, 2 first, 3 second, 4 third -/
def b_law_mixed : LSt := (blkS [
  asgN 2 (binE .Mod false (biE .int false [(binE .Add false (binE .Add false (binE .Mult false (varE 0) (cE (.int 48271))) (binE .Mult false (varE 1) (cE (.int 69621)))) (cE (.int 11)))]) (cE (.int 618970019642690137449562111))),
  asgN 3 (binE .Mod false (biE .int false [(binE .Add false (binE .Add false (binE .Mult false (varE 2) (varE 2)) (binE .Mult false (cE (.int 7)) (varE 2))) (varE 1))]) (cE (.int 162259276829213363391578010288127))),
  asgN 4 (binE .Mod false (biE .int false [(binE .Add false (binE .Mult false (varE 3) (varE 3)) (varE 2))]) (cE (.int 618970019642690137449562111))),
  retE (binE .Add false (binE .Mult false (varE 3) (cE (.int 618970019642690137449562111))) (varE 4))])
/-! _law_rest(script, place, fills) : 0 script, 1 place, 2 fills, 3 number -/
def b_law_rest : LSt := (blkS [
  asgN 3 (cE (.int 0)),
  ifS (testB (cmpE .Gt (biE .len false [(varE 0)]) (cE (.int 0)))) (blkS [
    asgN 3 (biE .int false [(idxE (varE 0) (binE .Mod false (biE .int false [(varE 1)]) (biE .len false [(varE 0)])))])]) (blkS []),
  ifS (testB (cmpE .Lt (varE 3) (cE (.int 0)))) (blkS [
    asgN 3 (binE .Sub false (cE (.int 1)) (binE .Mult false (cE (.int 2)) (varE 3)))]) (blkS []),
  ifS (andT (testB (cmpE .Eq (varE 2) (cE (.int 0)))) (andT (testB (cmpE .Lt (varE 1) (biE .len false [(varE 0)]))) (testB (cmpE .GtE (varE 3) (binE .Pow false (cE (.int 10)) (cE (.int 18))))))) (blkS [
    retE (binE .Sub false (varE 3) (binE .Pow false (cE (.int 10)) (cE (.int 18))))]) (blkS []),
  retE (callE "_law_mixed" [(binE .Add false (varE 3) (binE .Mult false (varE 2) (cE (.int 1000003)))), (varE 1)])])
/-! _law_pool(script) : 0 script -/
def b_law_pool : LSt := (blkS [
  retE (lstE true [(varE 0), (cE (.int 0)), (callE "_law_rest" [(varE 0), (cE (.int 0)), (cE (.int 0))]), (cE (.int 0))])])
/-! _law_next(pool) : 0 pool -/
def b_law_next : LSt := (blkS [
  putE (binE .Add false (idxE (varE 0) (cE (.int 1))) (cE (.int 1))) (varE 0) (cE (.int 1)),
  putE (callE "_law_rest" [(idxE (varE 0) (cE (.int 0))), (idxE (varE 0) (cE (.int 1))), (cE (.int 0))]) (varE 0) (cE (.int 2)),
  putE (cE (.int 0)) (varE 0) (cE (.int 3))])
/-! _law_draw(pool, limit) : 0 pool, 1 limit, 2 value -/
def b_law_draw : LSt := (blkS [
  ifS (testB (cmpE .LtE (idxE (varE 0) (cE (.int 2))) (cE (.int 1)))) (blkS [
    putE (binE .Add false (idxE (varE 0) (cE (.int 3))) (cE (.int 1))) (varE 0) (cE (.int 3)),
    putE (callE "_law_rest" [(idxE (varE 0) (cE (.int 0))), (idxE (varE 0) (cE (.int 1))), (idxE (varE 0) (cE (.int 3)))]) (varE 0) (cE (.int 2))]) (blkS []),
  asgN 2 (binE .Mod false (biE .int false [(idxE (varE 0) (cE (.int 2)))]) (varE 1)),
  putE (binE .FloorDiv false (biE .int false [(idxE (varE 0) (cE (.int 2)))]) (varE 1)) (varE 0) (cE (.int 2)),
  retE (varE 2)])
/-! _law_pick(pool, options) : 0 pool, 1 options -/
def b_law_pick : LSt := (blkS [
  retE (idxE (varE 1) (callE "_law_draw" [(varE 0), (biE .len false [(varE 1)])]))])
/-! _law_gcd(one, other) : 0 one, 1 other, 2 k -/
def l_law_gcd_1 : LSt := (blkS [
  ifS (testB (cmpE .Eq (varE 1) (cE (.int 0)))) (blkS [
    breakS]) (blkS []),
  asgT (.tp [(.nm 0), (.nm 1)]) (tupE [(varE 1), (binE .Mod false (biE .int false [(varE 0)]) (varE 1))])])
def f_law_gcd_1 : LSt := forE (rngS [(cE (.int 20000))]) (.nm 2) l_law_gcd_1
def b_law_gcd : LSt := (blkS [
  f_law_gcd_1,
  retE (varE 0)])
/-! _law_ratio(p, q) : 0 p, 1 q, 2 shared -/
def b_law_ratio : LSt := (blkS [
  ifS (testB (cmpE .Lt (varE 1) (cE (.int 0)))) (blkS [
    asgT (.tp [(.nm 0), (.nm 1)]) (tupE [(negE (varE 0)), (negE (varE 1))])]) (blkS []),
  asgN 2 (callE "_law_gcd" [(biE .abs false [(varE 0)]), (varE 1)]),
  retE (tupE [(binE .FloorDiv false (varE 0) (varE 2)), (binE .FloorDiv false (varE 1) (varE 2))])])
/-! _law_add(one, other) : 0 one, 1 other -/
def b_law_add : LSt := (blkS [
  retE (callE "_law_ratio" [(binE .Add false (binE .Mult false (idxE (varE 0) (cE (.int 0))) (idxE (varE 1) (cE (.int 1)))) (binE .Mult false (idxE (varE 1) (cE (.int 0))) (idxE (varE 0) (cE (.int 1))))), (binE .Mult false (idxE (varE 0) (cE (.int 1))) (idxE (varE 1) (cE (.int 1))))])])
/-! _law_sub(one, other) : 0 one, 1 other -/
def b_law_sub : LSt := (blkS [
  retE (callE "_law_ratio" [(binE .Sub false (binE .Mult false (idxE (varE 0) (cE (.int 0))) (idxE (varE 1) (cE (.int 1)))) (binE .Mult false (idxE (varE 1) (cE (.int 0))) (idxE (varE 0) (cE (.int 1))))), (binE .Mult false (idxE (varE 0) (cE (.int 1))) (idxE (varE 1) (cE (.int 1))))])])
/-! _law_mul(one, other) : 0 one, 1 other -/
def b_law_mul : LSt := (blkS [
  retE (callE "_law_ratio" [(binE .Mult false (idxE (varE 0) (cE (.int 0))) (idxE (varE 1) (cE (.int 0)))), (binE .Mult false (idxE (varE 0) (cE (.int 1))) (idxE (varE 1) (cE (.int 1))))])])
/-! _law_div(one, other) : 0 one, 1 other -/
def b_law_div : LSt := (blkS [
  retE (callE "_law_ratio" [(binE .Mult false (idxE (varE 0) (cE (.int 0))) (idxE (varE 1) (cE (.int 1)))), (binE .Mult false (idxE (varE 0) (cE (.int 1))) (idxE (varE 1) (cE (.int 0))))])])

section
variable {L : List LO} {mu : Bool}
theorem atI_nat {α : Type} {xs : List α} (n : Nat) : atI xs (n : Int) = xs[n]? := by
  unfold L2.atI L2.ixN
  by_cases h : n < xs.length
  · simp [h]
  · simp [h, List.getElem?_eq_none (Nat.le_of_not_lt h)]
theorem atI_0 {α : Type} {x : α} {xs : List α} : atI (x :: xs) 0 = some x := atI_nat (xs := x :: xs) 0
theorem atI_1 {α : Type} {x y : α} {xs : List α} : atI (x :: y :: xs) 1 = some y := atI_nat (xs := x :: y :: xs) 1
theorem atI_2 {α : Type} {x y z : α} {xs : List α} : atI (x :: y :: z :: xs) 2 = some z := atI_nat (xs := x :: y :: z :: xs) 2
theorem atI_3 {α : Type} {x y z u : α} {xs : List α} : atI (x :: y :: z :: u :: xs) 3 = some u := atI_nat (xs := x :: y :: z :: u :: xs) 3
theorem atI_4 {α : Type} {x y z u v : α} {xs : List α} : atI (x :: y :: z :: u :: v :: xs) 4 = some v := atI_nat (xs := x :: y :: z :: u :: v :: xs) 4
theorem atI_of {α : Type} {xs : List α} {i : Int} (h0 : 0 ≤ i) (h : i < xs.length) : ∃ x, atI xs i = some x ∧ xs[i.toNat]? = some x := by
  obtain ⟨n, rfl⟩ : ∃ n : Nat, i = n := ⟨i.toNat, by omega⟩
  have hn : n < xs.length := by omega
  exact ⟨xs[n], by rw [atI_nat, List.getElem?_eq_getElem hn], by rw [Int.toNat_natCast, List.getElem?_eq_getElem hn]⟩
def lenO (L : List LO) : Option Nat → Res LV
  | some n => .ok (.int n) L
  | none => .fail
theorem bi_len0 {x : LV} : biL .len mu [x] L = match lenL L x with | some n => .ok (.int n) L | none => .fail := by
  unfold biL
  rfl
theorem bi_len {x : LV} : biL .len mu [x] L = lenO L (lenL L x) := by
  rw [bi_len0]
  cases lenL L x <;> rfl
theorem lenO_s {n : Nat} : lenO L (some n) = .ok (.int n) L := rfl
theorem bi_int {i : Int} : biL .int mu [.int i] L = .ok (.int i) L := by unfold biL; rfl
theorem bi_intb {b : Bool} : biL .int mu [.bl b] L = .ok (.int (if b then 1 else 0)) L := by unfold biL; rfl
theorem bi_abs {i : Int} : biL .abs mu [.int i] L = .ok (.int (if i < 0 then -i else i)) L := by unfold biL; rfl
theorem bi_min {i j : Int} : biL .min2 mu [.int i, .int j] L = .ok (.int (if j < i then j else i)) L := by unfold biL; rfl
theorem bi_max {i j : Int} : biL .max2 mu [.int i, .int j] L = .ok (.int (if j > i then j else i)) L := by unfold biL; rfl
theorem bi_gcd {i j : Int} : biL .gcd mu [.int i, .int j] L = .ok (.int ((Nat.gcd i.natAbs j.natAbs : Nat) : Int)) L := by unfold biL; rfl
theorem bi_str {i : Int} : biL .str mu [.int i] L = if i.natAbs.log2 < 1920 then .ok (.str (toString i)) L else .fail := by unfold biL; rfl
theorem tr_bl {b : Bool} : truthL L (.bl b) = some b := by simp only [truthL]
theorem tr_int {i : Int} : truthL L (.int i) = some (i != 0) := by simp only [truthL]
theorem len_lst {xs : List LV} : lenL L (.lst xs) = some xs.length := by unfold lenL itemsOf seqOf; rfl
theorem len_tup {xs : List LV} : lenL L (.tup xs) = some xs.length := by unfold lenL itemsOf; rfl
theorem len_dct {kvs : List (DK × LV)} (h : kDict kvs = true) : lenL L (.dct kvs) = some kvs.length := by
  unfold lenL itemsOf seqOf dctOf
  simp only [h, if_true]
theorem len_ref {a : Nat} {xs : List LV} (h : L[a]? = some (.lst xs)) : lenL L (.ref a) = some xs.length := by
  unfold lenL itemsOf seqOf
  simp only [h]
theorem len_dref {a : Nat} {kvs : List (DK × LV)} (h : L[a]? = some (.dct kvs)) (hk : kDict kvs = true) : lenL L (.ref a) = some kvs.length := by
  unfold lenL itemsOf seqOf dctOf
  simp only [h, hk, if_true]
theorem len_str {z : Str} (h : z.length ≤ sizeLine) : lenL L (.str z) = some z.length := by
  unfold lenL itemsOf seqOf dctOf
  simp only [h, if_true]
end

section
variable {L : List LO}
theorem idx_refI {j : Nat} {i : Int} : idxL L (.ref j) (.int i) = match L[j]? with
    | some (.lst xs) => atI xs i
    | some (.dct kvs) => dget kvs (.k (.inl i))
    | some (.lkd kvs) => dget kvs (.k (.inl i))
    | _ => none := by
  unfold idxL dctOf
  cases h : L[j]? with
  | none => simp [itemsOf, seqOf, h]
  | some o => cases o <;> simp [itemsOf, seqOf, h, toDK]
theorem idx_refS {j : Nat} {z : Str} : idxL L (.ref j) (.str z) = match L[j]? with
    | some (.dct kvs) => dget kvs (.k (.inr z))
    | some (.lkd kvs) => dget kvs (.k (.inr z))
    | _ => none := by
  unfold idxL dctOf
  cases h : L[j]? with
  | none => simp [h]
  | some o => cases o <;> simp [h, toDK]
theorem idx_dctI {kvs : List (DK × LV)} {i : Int} : idxL L (.dct kvs) (.int i) = dget kvs (.k (.inl i)) := rfl
theorem idx_dctS {kvs : List (DK × LV)} {i : Str} : idxL L (.dct kvs) (.str i) = dget kvs (.k (.inr i)) := rfl
theorem ix4_0 : ixN 4 0 = some 0 := by decide
theorem ix4_1 : ixN 4 1 = some 1 := by decide
theorem ix4_2 : ixN 4 2 = some 2 := by decide
theorem ix4_3 : ixN 4 3 = some 3 := by decide
end
/-! ### how great a number is -/
def lg (i : Int) : Nat := i.natAbs.log2
theorem lg_le {i j : Int} (h : i.natAbs ≤ j.natAbs) : lg i ≤ lg j := by
  unfold lg
  by_cases h0 : i.natAbs = 0
  · rw [h0]; simp
  · exact (Nat.le_log2 (by omega)).mpr (Nat.le_trans (Nat.log2_self_le h0) h)
theorem lg_lt {i : Int} {n : Nat} (h : lg i < n) : i.natAbs < 2 ^ n := by
  by_cases h0 : i.natAbs = 0
  · rw [h0]; exact Nat.two_pow_pos n
  · exact (Nat.log2_lt h0).mp h
theorem lg_of {i : Int} {n : Nat} (h : i.natAbs < 2 ^ (n + 1)) : lg i ≤ n := by
  unfold lg
  by_cases h0 : i.natAbs = 0
  · rw [h0]; simp
  · have := (Nat.log2_lt h0).mpr h; omega
theorem lg_mul (i j : Int) : lg (i * j) ≤ lg i + lg j + 1 := by
  apply lg_of
  have h1 := lg_lt (i := i) (n := lg i + 1) (by omega)
  have h2 := lg_lt (i := j) (n := lg j + 1) (by omega)
  rw [Int.natAbs_mul, show lg i + lg j + 1 + 1 = (lg i + 1) + (lg j + 1) by omega, Nat.pow_add]
  exact Nat.mul_lt_mul'' h1 h2
theorem lg_add (i j : Int) : lg (i + j) ≤ max (lg i) (lg j) + 1 := by
  apply lg_of
  have h1 := lg_lt (i := i) (n := lg i + 1) (by omega)
  have h2 := lg_lt (i := j) (n := lg j + 1) (by omega)
  have h3 : (2 : Nat) ^ (lg i + 1) ≤ 2 ^ (max (lg i) (lg j) + 1) := Nat.pow_le_pow_right (by omega) (by omega)
  have h4 : (2 : Nat) ^ (lg j + 1) ≤ 2 ^ (max (lg i) (lg j) + 1) := Nat.pow_le_pow_right (by omega) (by omega)
  have h5 := Int.natAbs_add_le i j
  rw [Nat.pow_succ]
  omega
theorem lg_neg (i : Int) : lg (-i) = lg i := by unfold lg; rw [Int.natAbs_neg]
theorem lg_sub (i j : Int) : lg (i - j) ≤ max (lg i) (lg j) + 1 := by
  have := lg_add i (-j)
  rw [lg_neg] at this
  rw [Int.sub_eq_add_neg]; exact this
theorem lg_mod {i j : Int} (h : 0 < j) : lg (i % j) ≤ lg j := lg_le (by
  have h1 := Int.emod_nonneg i (by omega : j ≠ 0)
  have h2 := Int.emod_lt_of_pos i h
  omega)
theorem lg_div {i j : Int} (h : 0 < j) (h0 : 0 ≤ i) : lg (i / j) ≤ lg i := lg_le (by
  have h1 := Int.ediv_nonneg h0 (by omega : 0 ≤ j)
  have h2 := Int.ediv_le_self j h0
  omega)
theorem mulOk_of {i j : Int} (h : lg i + lg j < 100000000) : mulOk i j := h
theorem divOk_of {j : Int} (h0 : j ≠ 0) (h : lg j < 9000) : divOk j := ⟨h0, h⟩
theorem bits_lg {z : Int} {n : Nat} (h : Builtin.Int.intBits z ≤ n) : lg z ≤ n := by
  unfold Builtin.Int.intBits at h
  unfold lg
  split at h
  · rename_i e
    have : z = 0 := by simpa using e
    subst this; simp
  · omega
end Ev

set_option maxHeartbeats 4000000
/-! Ev19: the pool. -/
namespace Ev
open PySem PySem.Spec PyProof.Rows L2
/-- the pool's state -/
structure Pl where
  script : List Int
  place : Int
  number : Int
  fills : Int
def Pl.lo (p : Pl) : LO := .lst [.lst (p.script.map .int), .int p.place, .int p.number, .int p.fills]
/-- b: how often it may be drawn from -/
structure PlOk (b : Nat) (p : Pl) : Prop where
  s1 : ∀ z ∈ p.script, lg z ≤ 1048576
  s2 : p.script.length ≤ 63
  p1 : 0 ≤ p.place
  p2 : p.place + b ≤ 1000000000000
  f1 : 0 ≤ p.fills
  f2 : p.fills + b ≤ 1000000000000
  n1 : 0 ≤ p.number
  n2 : lg p.number ≤ 1048600
theorem PlOk.mono {a b : Nat} {p : Pl} (h : PlOk b p) (l : a ≤ b) : PlOk a p := ⟨h.s1, h.s2, h.p1, by have := h.p2; omega, h.f1, by have := h.f2; omega, h.n1, h.n2⟩
def mixed (number place : Int) : Int :=
  (((number * 48271 + place * 69621 + 11) % 618970019642690137449562111) * ((number * 48271 + place * 69621 + 11) % 618970019642690137449562111) + 7 * ((number * 48271 + place * 69621 + 11) % 618970019642690137449562111) + place) % 162259276829213363391578010288127 * 618970019642690137449562111
  + ((((number * 48271 + place * 69621 + 11) % 618970019642690137449562111) * ((number * 48271 + place * 69621 + 11) % 618970019642690137449562111) + 7 * ((number * 48271 + place * 69621 + 11) % 618970019642690137449562111) + place) % 162259276829213363391578010288127 * ((((number * 48271 + place * 69621 + 11) % 618970019642690137449562111) * ((number * 48271 + place * 69621 + 11) % 618970019642690137449562111) + 7 * ((number * 48271 + place * 69621 + 11) % 618970019642690137449562111) + place) % 162259276829213363391578010288127) + ((number * 48271 + place * 69621 + 11) % 618970019642690137449562111)) % 618970019642690137449562111
theorem lg_lit {i : Int} (n : Nat) (h : i.natAbs < 2 ^ (n + 1) := by decide) : lg i ≤ n := lg_of h
theorem mixed_ok {n p : Int} (h1 : lg n ≤ 1048650) (h2 : 0 ≤ p) (h3 : p ≤ 1000000000000) : 0 ≤ mixed n p ∧ lg (mixed n p) ≤ 1000 := by
  unfold mixed
  generalize hf : (n * 48271 + p * 69621 + 11) % 618970019642690137449562111 = f
  generalize hs : (f * f + 7 * f + p) % 162259276829213363391578010288127 = s
  generalize ht : (s * s + f) % 618970019642690137449562111 = t
  have s0 : 0 ≤ s := by rw [← hs]; exact Int.emod_nonneg _ (by decide)
  have t0 : 0 ≤ t := by rw [← ht]; exact Int.emod_nonneg _ (by decide)
  have s1 : lg s ≤ 200 := by rw [← hs]; exact Nat.le_trans (lg_mod (by decide)) (lg_lit 200)
  have t1 : lg t ≤ 200 := by rw [← ht]; exact Nat.le_trans (lg_mod (by decide)) (lg_lit 200)
  have a := lg_mul s 618970019642690137449562111
  have b : lg 618970019642690137449562111 ≤ 200 := lg_lit 200
  have c := lg_add (s * 618970019642690137449562111) t
  exact ⟨by omega, by omega⟩
section
variable {T : List (Str × FB)}
theorem mixed_eq (hT : Has T "_law_mixed" 5 false b_law_mixed) (k : Nat) {n p : Int} (L : List LO) (h1 : lg n ≤ 1048650) (h2 : 0 ≤ p) (h3 : p ≤ 1000000000000) : evCall T (k + 1) "_law_mixed" [.int n, .int p] L = .ok (.int (mixed n p)) L := by
  have p1 : lg p ≤ 60 := lg_of (by omega)
  have c1 : mulOk n 48271 := mulOk_of (by have : lg 48271 ≤ 20 := lg_lit 20; omega)
  have c2 : mulOk p 69621 := mulOk_of (by have : lg 69621 ≤ 20 := lg_lit 20; omega)
  have f1 : lg ((n * 48271 + p * 69621 + 11) % 618970019642690137449562111) ≤ 200 := Nat.le_trans (lg_mod (by decide)) (lg_lit 200)
  have c3 : mulOk ((n * 48271 + p * 69621 + 11) % 618970019642690137449562111) ((n * 48271 + p * 69621 + 11) % 618970019642690137449562111) := mulOk_of (by omega)
  have c4 : mulOk 7 ((n * 48271 + p * 69621 + 11) % 618970019642690137449562111) := mulOk_of (by have : lg 7 ≤ 20 := lg_lit 20; omega)
  have s1 : lg ((((n * 48271 + p * 69621 + 11) % 618970019642690137449562111) * ((n * 48271 + p * 69621 + 11) % 618970019642690137449562111) + 7 * ((n * 48271 + p * 69621 + 11) % 618970019642690137449562111) + p) % 162259276829213363391578010288127) ≤ 200 := Nat.le_trans (lg_mod (by decide)) (lg_lit 200)
  have c5 := mulOk_of (i := (((n * 48271 + p * 69621 + 11) % 618970019642690137449562111) * ((n * 48271 + p * 69621 + 11) % 618970019642690137449562111) + 7 * ((n * 48271 + p * 69621 + 11) % 618970019642690137449562111) + p) % 162259276829213363391578010288127) (j := (((n * 48271 + p * 69621 + 11) % 618970019642690137449562111) * ((n * 48271 + p * 69621 + 11) % 618970019642690137449562111) + 7 * ((n * 48271 + p * 69621 + 11) % 618970019642690137449562111) + p) % 162259276829213363391578010288127) (by omega)
  have c6 := mulOk_of (i := (((n * 48271 + p * 69621 + 11) % 618970019642690137449562111) * ((n * 48271 + p * 69621 + 11) % 618970019642690137449562111) + 7 * ((n * 48271 + p * 69621 + 11) % 618970019642690137449562111) + p) % 162259276829213363391578010288127) (j := 618970019642690137449562111) (by have : lg 618970019642690137449562111 ≤ 200 := lg_lit 200; omega)
  have d1 : (0 : Int) < 618970019642690137449562111 := by decide
  have d2 : (0 : Int) < 162259276829213363391578010288127 := by decide
  rw [call_of hT]
  simp -implicitDefEqProofs only [varE_ev, cE_ev, argsE_nil, argsE_cons, aK1_ok, aK2_ok, tupE_ev, tupK_ok, lstE_ev, lstK_ok, dctE_ev, newL_t, newL_f, newD_t, newD_f, binE_ev, binK1_ok, binK2_ok, idxE_ev, idxK1_ok, idxK2_ok, cmpE_ev, cmpK1_ok, cmpK2_ok, optV_s, optB_s, testB_ev, testK_ok, truE_ev, truK_ok, truO_s, notT_ev, notK_ok, andT_ev, andK_t, andK_f, orT_ev, orK_t, orK_f, andE_ev, andV1_ok, andV2_t, andV2_f, orE_ev, orV1_ok, orV2_t, orV2_f, notE_ev, notV1_ok, notV2_s, negE_ev, negK_ok, ifE_ev, ifV_t, ifV_f, chainE_ev, chK1_ok, chK2_ok, chK3_t, chK3_f, chK4_ok, partE_ev, partK_ok, noE_ev, sliceE_ev, slK1_ok, slK2_ok, slK3_ok, callE_ev, callK_ok, biE_ev, biK_ok, appE_ev, apK2_ok, getE_ev, geK2_ok, get2E_ev, gfK2_ok, gfK3_ok, geO_ok, asgN_ev, asgK_ok, asgT_ev, asgTK_ok, asgO_s, putE_ev, putK1_ok, putK2_ok, putK3_ok, putK4_ok, retE_ev, retK_ok, retN_ev, exprS_ev, exprK_ok, passS_ev, breakS_ev, contS_ev, ifS_ev, ifK_t, ifK_f, blkS_nil, blkS_cons, blkK_n, blkK_r, blkK_b, blkK_c, finK_r, finK_n, stT_nm, stT_tp, stTs_nil, stTs_cons, stO_s, Ev.add_int, Ev.sub_int, mul_intE, div_int, mod_intE, lt_intE, gt_intE, le_intE, ge_intE, eq_intE, ne_intE, eq_strE, ne_strE, eq_blE, ne_blE, is_nonE, is_blE, isnot_nonE, idx_lst, idx_tup, idx_refI, idx_refS, idx_dctI, idx_dctS, setL_lst, setL_str, ix4_0, ix4_1, ix4_2, ix4_3, fin_f, List.map, List.replicate, List.length_cons, List.length_nil, List.nil_append, List.cons_append, List.getElem?_cons_zero, List.getElem?_cons_succ, List.set_cons_zero, List.set_cons_succ, if_true, if_false, decide_true, decide_false, Bool.not_true, Bool.not_false, ite_true, ite_false, Ev.bi_len, lenO_s, bi_int, bi_intb, bi_abs, bi_min, bi_max, bi_gcd, bi_str, tr_bl, tr_int, Nat.sub_self, Nat.zero_add, Nat.reduceAdd, Nat.reduceSub, atI_0, atI_1, atI_2, atI_3, atI_4, Int.reduceNeg, Ev.pow_int, and_self, Bool.false_eq_true, reduceCtorEq, Option.bind_some, Option.bind_none, id_eq, Int.le_refl, Int.lt_irrefl, Int.reduceEq, Int.reduceNe, Int.reduceLT, Int.reduceLE, Int.reducePow, Int.reduceToNat, Int.reduceAbs, Nat.reducePow, Nat.reduceLT, Nat.reduceLeDiff, Nat.reduceEqDiff, Nat.reduceMul, b_law_mixed, c1, c2, c3, c4, c5, c6, d1, d2, mixed]
/-- what a place of the script gives -/
def rv (script : List Int) (place : Int) : Int := if script.length = 0 then 0 else (script[(place % script.length).toNat]?).getD 0
def rn (v : Int) : Int := if v < 0 then 1 - 2 * v else v
def rest (script : List Int) (place fills : Int) : Int :=
  if fills = 0 ∧ place < script.length ∧ 1000000000000000000 ≤ rn (rv script place) then rn (rv script place) - 1000000000000000000 else mixed (rn (rv script place) + fills * 1000003) place
theorem rv_ok {script : List Int} {place : Int} (s1 : ∀ z ∈ script, lg z ≤ 1048576) : lg (rv script place) ≤ 1048576 := by
  unfold rv
  split
  · exact Nat.le_trans (lg_lit 0) (by omega)
  · cases e : script[(place % script.length).toNat]? with
    | none => exact Nat.le_trans (lg_lit 0) (by omega)
    | some z => exact s1 z (List.mem_of_getElem? e)
theorem rn_ok {v : Int} (h : lg v ≤ 1048576) : 0 ≤ rn v ∧ lg (rn v) ≤ 1048580 := by
  unfold rn
  split
  · have := lg_sub 1 (2 * v)
    have := lg_mul 2 v
    have : lg 1 ≤ 1 := lg_lit 1
    have : lg 2 ≤ 1 := lg_lit 1
    omega
  · omega
theorem rn_fill {n fills : Int} (h : lg n ≤ 1048580) (f2 : 0 ≤ fills) (f3 : fills ≤ 1000000000000) : lg (n + fills * 1000003) ≤ 1048650 := by
  have a3 : lg fills ≤ 60 := lg_of (by omega)
  have := lg_add n (fills * 1000003)
  have := lg_mul fills 1000003
  have : lg 1000003 ≤ 30 := lg_lit 30
  omega
theorem rest_ok {script : List Int} {place fills : Int} (s1 : ∀ z ∈ script, lg z ≤ 1048576) (h2 : 0 ≤ place) (h3 : place ≤ 1000000000000) (f2 : 0 ≤ fills) (f3 : fills ≤ 1000000000000) : 0 ≤ rest script place fills ∧ lg (rest script place fills) ≤ 1048600 := by
  obtain ⟨a1, a2⟩ := rn_ok (rv_ok (place := place) s1)
  have a4 := rn_fill a2 f2 f3
  unfold rest
  generalize rn (rv script place) = n at *
  have m := mixed_ok (n := n + fills * 1000003) a4 h2 h3
  split
  · have : lg (n - 1000000000000000000) ≤ lg n := lg_le (by omega)
    omega
  · omega
theorem rest_eq (h1 : Has T "_law_mixed" 5 false b_law_mixed) (h2 : Has T "_law_rest" 4 false b_law_rest) (k : Nat) {script : List Int} {place fills : Int} (L : List LO) (s1 : ∀ z ∈ script, lg z ≤ 1048576) (s2 : script.length ≤ 63) (p1 : 0 ≤ place) (p2 : place ≤ 1000000000000) (f1 : 0 ≤ fills) (f2 : fills ≤ 1000000000000) :
    evCall T (k + 2) "_law_rest" [.lst (script.map .int), .int place, .int fills] L = .ok (.int (rest script place fills)) L := by
  have hv := rv_ok (place := place) s1
  obtain ⟨n1, n2⟩ := rn_ok hv
  have n3 := rn_fill n2 f1 f2
  have cf : mulOk fills 1000003 := mulOk_of (by have : lg fills ≤ 60 := lg_of (by omega); have : lg 1000003 ≤ 30 := lg_lit 30; omega)
  have cv : mulOk 2 (rv script place) := mulOk_of (by have : lg 2 ≤ 30 := lg_lit 30; omega)
  have pw : ((0 : Int) ≤ 18 ∧ (18 : Int) ≤ 1000000 ∧ (10 : Int).natAbs < 2 ^ 64) = True := eq_true (by decide)
  have e18 : (10 : Int) ^ (18 : Int).toNat = 1000000000000000000 := by decide
  have mx := mixed_eq h1 k (n := rn (rv script place) + fills * 1000003) (p := place) L n3 p1 p2
  rw [call_of h2]
  unfold b_law_rest
  -- the number read
  have step1 : ∀ (rest : List LSt), blkS ((asgN 3 (cE (.int 0))) :: (ifS (testB (cmpE .Gt (biE .len false [(varE 0)]) (cE (.int 0)))) (blkS [asgN 3 (biE .int false [(idxE (varE 0) (binE .Mod false (biE .int false [(varE 1)]) (biE .len false [(varE 0)])))])]) (blkS [])) :: rest) (evCall T (k + 1)) [some (.lst (script.map .int)), some (.int place), some (.int fills), none] L
      = blkS rest (evCall T (k + 1)) [some (.lst (script.map .int)), some (.int place), some (.int fills), some (.int (rv script place))] L := by
    intro rest
    by_cases hl : script.length = 0
    · have e : rv script place = 0 := by unfold rv; rw [if_pos hl]
      rw [e]
      have hs : script = [] := List.length_eq_zero_iff.mp hl
      subst hs
      have d : ¬ ((0 : Int) < 0) := by decide
      simp -implicitDefEqProofs only [varE_ev, cE_ev, argsE_nil, argsE_cons, aK1_ok, aK2_ok, tupE_ev, tupK_ok, lstE_ev, lstK_ok, dctE_ev, newL_t, newL_f, newD_t, newD_f, binE_ev, binK1_ok, binK2_ok, idxE_ev, idxK1_ok, idxK2_ok, cmpE_ev, cmpK1_ok, cmpK2_ok, optV_s, optB_s, testB_ev, testK_ok, truE_ev, truK_ok, truO_s, notT_ev, notK_ok, andT_ev, andK_t, andK_f, orT_ev, orK_t, orK_f, andE_ev, andV1_ok, andV2_t, andV2_f, orE_ev, orV1_ok, orV2_t, orV2_f, notE_ev, notV1_ok, notV2_s, negE_ev, negK_ok, ifE_ev, ifV_t, ifV_f, chainE_ev, chK1_ok, chK2_ok, chK3_t, chK3_f, chK4_ok, partE_ev, partK_ok, noE_ev, sliceE_ev, slK1_ok, slK2_ok, slK3_ok, callE_ev, callK_ok, biE_ev, biK_ok, appE_ev, apK2_ok, getE_ev, geK2_ok, get2E_ev, gfK2_ok, gfK3_ok, geO_ok, asgN_ev, asgK_ok, asgT_ev, asgTK_ok, asgO_s, putE_ev, putK1_ok, putK2_ok, putK3_ok, putK4_ok, retE_ev, retK_ok, retN_ev, exprS_ev, exprK_ok, passS_ev, breakS_ev, contS_ev, ifS_ev, ifK_t, ifK_f, blkS_nil, blkS_cons, blkK_n, blkK_r, blkK_b, blkK_c, finK_r, finK_n, stT_nm, stT_tp, stTs_nil, stTs_cons, stO_s, Ev.add_int, Ev.sub_int, mul_intE, div_int, mod_intE, lt_intE, gt_intE, le_intE, ge_intE, eq_intE, ne_intE, eq_strE, ne_strE, eq_blE, ne_blE, is_nonE, is_blE, isnot_nonE, idx_lst, idx_tup, idx_refI, idx_refS, idx_dctI, idx_dctS, setL_lst, setL_str, ix4_0, ix4_1, ix4_2, ix4_3, fin_f, List.map, List.replicate, List.length_cons, List.length_nil, List.nil_append, List.cons_append, List.getElem?_cons_zero, List.getElem?_cons_succ, List.set_cons_zero, List.set_cons_succ, if_true, if_false, decide_true, decide_false, Bool.not_true, Bool.not_false, ite_true, ite_false, Ev.bi_len, lenO_s, bi_int, bi_intb, bi_abs, bi_min, bi_max, bi_gcd, bi_str, tr_bl, tr_int, Nat.sub_self, Nat.zero_add, Nat.reduceAdd, Nat.reduceSub, atI_0, atI_1, atI_2, atI_3, atI_4, Int.reduceNeg, Ev.pow_int, and_self, Bool.false_eq_true, reduceCtorEq, Option.bind_some, Option.bind_none, id_eq, Int.le_refl, Int.lt_irrefl, Int.reduceEq, Int.reduceNe, Int.reduceLT, Int.reduceLE, Int.reducePow, Int.reduceToNat, Int.reduceAbs, Nat.reducePow, Nat.reduceLT, Nat.reduceLeDiff, Nat.reduceEqDiff, Nat.reduceMul, len_lst, Int.ofNat_zero, d, Int.cast_ofNat_Int]
    · have d : (0 : Int) < (script.length : Int) := by omega
      have m0 := Int.emod_nonneg place (show (script.length : Int) ≠ 0 by omega)
      have m1 := Int.emod_lt_of_pos place d
      obtain ⟨x, x1, x2⟩ := atI_of (xs := script.map LV.int) m0 (by rw [List.length_map]; exact m1)
      have xv : x = .int (rv script place) := by
        rw [List.getElem?_map] at x2
        obtain ⟨z, z1, z2⟩ := Option.map_eq_some_iff.mp x2
        unfold rv
        rw [if_neg hl, z1, ← z2]; rfl
      rw [xv] at x1
      simp -implicitDefEqProofs only [varE_ev, cE_ev, argsE_nil, argsE_cons, aK1_ok, aK2_ok, tupE_ev, tupK_ok, lstE_ev, lstK_ok, dctE_ev, newL_t, newL_f, newD_t, newD_f, binE_ev, binK1_ok, binK2_ok, idxE_ev, idxK1_ok, idxK2_ok, cmpE_ev, cmpK1_ok, cmpK2_ok, optV_s, optB_s, testB_ev, testK_ok, truE_ev, truK_ok, truO_s, notT_ev, notK_ok, andT_ev, andK_t, andK_f, orT_ev, orK_t, orK_f, andE_ev, andV1_ok, andV2_t, andV2_f, orE_ev, orV1_ok, orV2_t, orV2_f, notE_ev, notV1_ok, notV2_s, negE_ev, negK_ok, ifE_ev, ifV_t, ifV_f, chainE_ev, chK1_ok, chK2_ok, chK3_t, chK3_f, chK4_ok, partE_ev, partK_ok, noE_ev, sliceE_ev, slK1_ok, slK2_ok, slK3_ok, callE_ev, callK_ok, biE_ev, biK_ok, appE_ev, apK2_ok, getE_ev, geK2_ok, get2E_ev, gfK2_ok, gfK3_ok, geO_ok, asgN_ev, asgK_ok, asgT_ev, asgTK_ok, asgO_s, putE_ev, putK1_ok, putK2_ok, putK3_ok, putK4_ok, retE_ev, retK_ok, retN_ev, exprS_ev, exprK_ok, passS_ev, breakS_ev, contS_ev, ifS_ev, ifK_t, ifK_f, blkS_nil, blkS_cons, blkK_n, blkK_r, blkK_b, blkK_c, finK_r, finK_n, stT_nm, stT_tp, stTs_nil, stTs_cons, stO_s, Ev.add_int, Ev.sub_int, mul_intE, div_int, mod_intE, lt_intE, gt_intE, le_intE, ge_intE, eq_intE, ne_intE, eq_strE, ne_strE, eq_blE, ne_blE, is_nonE, is_blE, isnot_nonE, idx_lst, idx_tup, idx_refI, idx_refS, idx_dctI, idx_dctS, setL_lst, setL_str, ix4_0, ix4_1, ix4_2, ix4_3, fin_f, List.map, List.replicate, List.length_cons, List.length_nil, List.nil_append, List.cons_append, List.getElem?_cons_zero, List.getElem?_cons_succ, List.set_cons_zero, List.set_cons_succ, if_true, if_false, decide_true, decide_false, Bool.not_true, Bool.not_false, ite_true, ite_false, Ev.bi_len, lenO_s, bi_int, bi_intb, bi_abs, bi_min, bi_max, bi_gcd, bi_str, tr_bl, tr_int, Nat.sub_self, Nat.zero_add, Nat.reduceAdd, Nat.reduceSub, atI_0, atI_1, atI_2, atI_3, atI_4, Int.reduceNeg, Ev.pow_int, and_self, Bool.false_eq_true, reduceCtorEq, Option.bind_some, Option.bind_none, id_eq, Int.le_refl, Int.lt_irrefl, Int.reduceEq, Int.reduceNe, Int.reduceLT, Int.reduceLE, Int.reducePow, Int.reduceToNat, Int.reduceAbs, Nat.reducePow, Nat.reduceLT, Nat.reduceLeDiff, Nat.reduceEqDiff, Nat.reduceMul, len_lst, List.length_map, d, x1]
  have step2 : ∀ (rest : List LSt), blkS ((ifS (testB (cmpE .Lt (varE 3) (cE (.int 0)))) (blkS [asgN 3 (binE .Sub false (cE (.int 1)) (binE .Mult false (cE (.int 2)) (varE 3)))]) (blkS [])) :: rest) (evCall T (k + 1)) [some (.lst (script.map .int)), some (.int place), some (.int fills), some (.int (rv script place))] L
      = blkS rest (evCall T (k + 1)) [some (.lst (script.map .int)), some (.int place), some (.int fills), some (.int (rn (rv script place)))] L := by
    intro rest
    unfold rn
    by_cases hl : rv script place < 0
    · simp -implicitDefEqProofs only [varE_ev, cE_ev, argsE_nil, argsE_cons, aK1_ok, aK2_ok, tupE_ev, tupK_ok, lstE_ev, lstK_ok, dctE_ev, newL_t, newL_f, newD_t, newD_f, binE_ev, binK1_ok, binK2_ok, idxE_ev, idxK1_ok, idxK2_ok, cmpE_ev, cmpK1_ok, cmpK2_ok, optV_s, optB_s, testB_ev, testK_ok, truE_ev, truK_ok, truO_s, notT_ev, notK_ok, andT_ev, andK_t, andK_f, orT_ev, orK_t, orK_f, andE_ev, andV1_ok, andV2_t, andV2_f, orE_ev, orV1_ok, orV2_t, orV2_f, notE_ev, notV1_ok, notV2_s, negE_ev, negK_ok, ifE_ev, ifV_t, ifV_f, chainE_ev, chK1_ok, chK2_ok, chK3_t, chK3_f, chK4_ok, partE_ev, partK_ok, noE_ev, sliceE_ev, slK1_ok, slK2_ok, slK3_ok, callE_ev, callK_ok, biE_ev, biK_ok, appE_ev, apK2_ok, getE_ev, geK2_ok, get2E_ev, gfK2_ok, gfK3_ok, geO_ok, asgN_ev, asgK_ok, asgT_ev, asgTK_ok, asgO_s, putE_ev, putK1_ok, putK2_ok, putK3_ok, putK4_ok, retE_ev, retK_ok, retN_ev, exprS_ev, exprK_ok, passS_ev, breakS_ev, contS_ev, ifS_ev, ifK_t, ifK_f, blkS_nil, blkS_cons, blkK_n, blkK_r, blkK_b, blkK_c, finK_r, finK_n, stT_nm, stT_tp, stTs_nil, stTs_cons, stO_s, Ev.add_int, Ev.sub_int, mul_intE, div_int, mod_intE, lt_intE, gt_intE, le_intE, ge_intE, eq_intE, ne_intE, eq_strE, ne_strE, eq_blE, ne_blE, is_nonE, is_blE, isnot_nonE, idx_lst, idx_tup, idx_refI, idx_refS, idx_dctI, idx_dctS, setL_lst, setL_str, ix4_0, ix4_1, ix4_2, ix4_3, fin_f, List.map, List.replicate, List.length_cons, List.length_nil, List.nil_append, List.cons_append, List.getElem?_cons_zero, List.getElem?_cons_succ, List.set_cons_zero, List.set_cons_succ, if_true, if_false, decide_true, decide_false, Bool.not_true, Bool.not_false, ite_true, ite_false, Ev.bi_len, lenO_s, bi_int, bi_intb, bi_abs, bi_min, bi_max, bi_gcd, bi_str, tr_bl, tr_int, Nat.sub_self, Nat.zero_add, Nat.reduceAdd, Nat.reduceSub, atI_0, atI_1, atI_2, atI_3, atI_4, Int.reduceNeg, Ev.pow_int, and_self, Bool.false_eq_true, reduceCtorEq, Option.bind_some, Option.bind_none, id_eq, Int.le_refl, Int.lt_irrefl, Int.reduceEq, Int.reduceNe, Int.reduceLT, Int.reduceLE, Int.reducePow, Int.reduceToNat, Int.reduceAbs, Nat.reducePow, Nat.reduceLT, Nat.reduceLeDiff, Nat.reduceEqDiff, Nat.reduceMul, hl, cv]
    · simp -implicitDefEqProofs only [varE_ev, cE_ev, argsE_nil, argsE_cons, aK1_ok, aK2_ok, tupE_ev, tupK_ok, lstE_ev, lstK_ok, dctE_ev, newL_t, newL_f, newD_t, newD_f, binE_ev, binK1_ok, binK2_ok, idxE_ev, idxK1_ok, idxK2_ok, cmpE_ev, cmpK1_ok, cmpK2_ok, optV_s, optB_s, testB_ev, testK_ok, truE_ev, truK_ok, truO_s, notT_ev, notK_ok, andT_ev, andK_t, andK_f, orT_ev, orK_t, orK_f, andE_ev, andV1_ok, andV2_t, andV2_f, orE_ev, orV1_ok, orV2_t, orV2_f, notE_ev, notV1_ok, notV2_s, negE_ev, negK_ok, ifE_ev, ifV_t, ifV_f, chainE_ev, chK1_ok, chK2_ok, chK3_t, chK3_f, chK4_ok, partE_ev, partK_ok, noE_ev, sliceE_ev, slK1_ok, slK2_ok, slK3_ok, callE_ev, callK_ok, biE_ev, biK_ok, appE_ev, apK2_ok, getE_ev, geK2_ok, get2E_ev, gfK2_ok, gfK3_ok, geO_ok, asgN_ev, asgK_ok, asgT_ev, asgTK_ok, asgO_s, putE_ev, putK1_ok, putK2_ok, putK3_ok, putK4_ok, retE_ev, retK_ok, retN_ev, exprS_ev, exprK_ok, passS_ev, breakS_ev, contS_ev, ifS_ev, ifK_t, ifK_f, blkS_nil, blkS_cons, blkK_n, blkK_r, blkK_b, blkK_c, finK_r, finK_n, stT_nm, stT_tp, stTs_nil, stTs_cons, stO_s, Ev.add_int, Ev.sub_int, mul_intE, div_int, mod_intE, lt_intE, gt_intE, le_intE, ge_intE, eq_intE, ne_intE, eq_strE, ne_strE, eq_blE, ne_blE, is_nonE, is_blE, isnot_nonE, idx_lst, idx_tup, idx_refI, idx_refS, idx_dctI, idx_dctS, setL_lst, setL_str, ix4_0, ix4_1, ix4_2, ix4_3, fin_f, List.map, List.replicate, List.length_cons, List.length_nil, List.nil_append, List.cons_append, List.getElem?_cons_zero, List.getElem?_cons_succ, List.set_cons_zero, List.set_cons_succ, if_true, if_false, decide_true, decide_false, Bool.not_true, Bool.not_false, ite_true, ite_false, Ev.bi_len, lenO_s, bi_int, bi_intb, bi_abs, bi_min, bi_max, bi_gcd, bi_str, tr_bl, tr_int, Nat.sub_self, Nat.zero_add, Nat.reduceAdd, Nat.reduceSub, atI_0, atI_1, atI_2, atI_3, atI_4, Int.reduceNeg, Ev.pow_int, and_self, Bool.false_eq_true, reduceCtorEq, Option.bind_some, Option.bind_none, id_eq, Int.le_refl, Int.lt_irrefl, Int.reduceEq, Int.reduceNe, Int.reduceLT, Int.reduceLE, Int.reducePow, Int.reduceToNat, Int.reduceAbs, Nat.reducePow, Nat.reduceLT, Nat.reduceLeDiff, Nat.reduceEqDiff, Nat.reduceMul, hl]
  show (match blkS _ (evCall T (k + 1)) [some (.lst (script.map .int)), some (.int place), some (.int fills), none] L with | .ok (.ret v, _) L1 => finB false L v L1 | .ok (.next, _) L1 => finB false L .non L1 | _ => .fail) = _
  rw [step1, step2]
  unfold rest
  generalize rn (rv script place) = n at *
  by_cases q1 : fills = 0
  · subst q1
    by_cases q2 : place < script.length
    · by_cases q3 : 1000000000000000000 ≤ n
      · simp -implicitDefEqProofs only [varE_ev, cE_ev, argsE_nil, argsE_cons, aK1_ok, aK2_ok, tupE_ev, tupK_ok, lstE_ev, lstK_ok, dctE_ev, newL_t, newL_f, newD_t, newD_f, binE_ev, binK1_ok, binK2_ok, idxE_ev, idxK1_ok, idxK2_ok, cmpE_ev, cmpK1_ok, cmpK2_ok, optV_s, optB_s, testB_ev, testK_ok, truE_ev, truK_ok, truO_s, notT_ev, notK_ok, andT_ev, andK_t, andK_f, orT_ev, orK_t, orK_f, andE_ev, andV1_ok, andV2_t, andV2_f, orE_ev, orV1_ok, orV2_t, orV2_f, notE_ev, notV1_ok, notV2_s, negE_ev, negK_ok, ifE_ev, ifV_t, ifV_f, chainE_ev, chK1_ok, chK2_ok, chK3_t, chK3_f, chK4_ok, partE_ev, partK_ok, noE_ev, sliceE_ev, slK1_ok, slK2_ok, slK3_ok, callE_ev, callK_ok, biE_ev, biK_ok, appE_ev, apK2_ok, getE_ev, geK2_ok, get2E_ev, gfK2_ok, gfK3_ok, geO_ok, asgN_ev, asgK_ok, asgT_ev, asgTK_ok, asgO_s, putE_ev, putK1_ok, putK2_ok, putK3_ok, putK4_ok, retE_ev, retK_ok, retN_ev, exprS_ev, exprK_ok, passS_ev, breakS_ev, contS_ev, ifS_ev, ifK_t, ifK_f, blkS_nil, blkS_cons, blkK_n, blkK_r, blkK_b, blkK_c, finK_r, finK_n, stT_nm, stT_tp, stTs_nil, stTs_cons, stO_s, Ev.add_int, Ev.sub_int, mul_intE, div_int, mod_intE, lt_intE, gt_intE, le_intE, ge_intE, eq_intE, ne_intE, eq_strE, ne_strE, eq_blE, ne_blE, is_nonE, is_blE, isnot_nonE, idx_lst, idx_tup, idx_refI, idx_refS, idx_dctI, idx_dctS, setL_lst, setL_str, ix4_0, ix4_1, ix4_2, ix4_3, fin_f, List.map, List.replicate, List.length_cons, List.length_nil, List.nil_append, List.cons_append, List.getElem?_cons_zero, List.getElem?_cons_succ, List.set_cons_zero, List.set_cons_succ, if_true, if_false, decide_true, decide_false, Bool.not_true, Bool.not_false, ite_true, ite_false, Ev.bi_len, lenO_s, bi_int, bi_intb, bi_abs, bi_min, bi_max, bi_gcd, bi_str, tr_bl, tr_int, Nat.sub_self, Nat.zero_add, Nat.reduceAdd, Nat.reduceSub, atI_0, atI_1, atI_2, atI_3, atI_4, Int.reduceNeg, Ev.pow_int, and_self, Bool.false_eq_true, reduceCtorEq, Option.bind_some, Option.bind_none, id_eq, Int.le_refl, Int.lt_irrefl, Int.reduceEq, Int.reduceNe, Int.reduceLT, Int.reduceLE, Int.reducePow, Int.reduceToNat, Int.reduceAbs, Nat.reducePow, Nat.reduceLT, Nat.reduceLeDiff, Nat.reduceEqDiff, Nat.reduceMul, len_lst, List.length_map, q2, q3, pw, e18, true_and]
      · simp -implicitDefEqProofs only [varE_ev, cE_ev, argsE_nil, argsE_cons, aK1_ok, aK2_ok, tupE_ev, tupK_ok, lstE_ev, lstK_ok, dctE_ev, newL_t, newL_f, newD_t, newD_f, binE_ev, binK1_ok, binK2_ok, idxE_ev, idxK1_ok, idxK2_ok, cmpE_ev, cmpK1_ok, cmpK2_ok, optV_s, optB_s, testB_ev, testK_ok, truE_ev, truK_ok, truO_s, notT_ev, notK_ok, andT_ev, andK_t, andK_f, orT_ev, orK_t, orK_f, andE_ev, andV1_ok, andV2_t, andV2_f, orE_ev, orV1_ok, orV2_t, orV2_f, notE_ev, notV1_ok, notV2_s, negE_ev, negK_ok, ifE_ev, ifV_t, ifV_f, chainE_ev, chK1_ok, chK2_ok, chK3_t, chK3_f, chK4_ok, partE_ev, partK_ok, noE_ev, sliceE_ev, slK1_ok, slK2_ok, slK3_ok, callE_ev, callK_ok, biE_ev, biK_ok, appE_ev, apK2_ok, getE_ev, geK2_ok, get2E_ev, gfK2_ok, gfK3_ok, geO_ok, asgN_ev, asgK_ok, asgT_ev, asgTK_ok, asgO_s, putE_ev, putK1_ok, putK2_ok, putK3_ok, putK4_ok, retE_ev, retK_ok, retN_ev, exprS_ev, exprK_ok, passS_ev, breakS_ev, contS_ev, ifS_ev, ifK_t, ifK_f, blkS_nil, blkS_cons, blkK_n, blkK_r, blkK_b, blkK_c, finK_r, finK_n, stT_nm, stT_tp, stTs_nil, stTs_cons, stO_s, Ev.add_int, Ev.sub_int, mul_intE, div_int, mod_intE, lt_intE, gt_intE, le_intE, ge_intE, eq_intE, ne_intE, eq_strE, ne_strE, eq_blE, ne_blE, is_nonE, is_blE, isnot_nonE, idx_lst, idx_tup, idx_refI, idx_refS, idx_dctI, idx_dctS, setL_lst, setL_str, ix4_0, ix4_1, ix4_2, ix4_3, fin_f, List.map, List.replicate, List.length_cons, List.length_nil, List.nil_append, List.cons_append, List.getElem?_cons_zero, List.getElem?_cons_succ, List.set_cons_zero, List.set_cons_succ, if_true, if_false, decide_true, decide_false, Bool.not_true, Bool.not_false, ite_true, ite_false, Ev.bi_len, lenO_s, bi_int, bi_intb, bi_abs, bi_min, bi_max, bi_gcd, bi_str, tr_bl, tr_int, Nat.sub_self, Nat.zero_add, Nat.reduceAdd, Nat.reduceSub, atI_0, atI_1, atI_2, atI_3, atI_4, Int.reduceNeg, Ev.pow_int, and_self, Bool.false_eq_true, reduceCtorEq, Option.bind_some, Option.bind_none, id_eq, Int.le_refl, Int.lt_irrefl, Int.reduceEq, Int.reduceNe, Int.reduceLT, Int.reduceLE, Int.reducePow, Int.reduceToNat, Int.reduceAbs, Nat.reducePow, Nat.reduceLT, Nat.reduceLeDiff, Nat.reduceEqDiff, Nat.reduceMul, len_lst, List.length_map, q2, q3, pw, e18, cf, mx, and_false]
    · simp -implicitDefEqProofs only [varE_ev, cE_ev, argsE_nil, argsE_cons, aK1_ok, aK2_ok, tupE_ev, tupK_ok, lstE_ev, lstK_ok, dctE_ev, newL_t, newL_f, newD_t, newD_f, binE_ev, binK1_ok, binK2_ok, idxE_ev, idxK1_ok, idxK2_ok, cmpE_ev, cmpK1_ok, cmpK2_ok, optV_s, optB_s, testB_ev, testK_ok, truE_ev, truK_ok, truO_s, notT_ev, notK_ok, andT_ev, andK_t, andK_f, orT_ev, orK_t, orK_f, andE_ev, andV1_ok, andV2_t, andV2_f, orE_ev, orV1_ok, orV2_t, orV2_f, notE_ev, notV1_ok, notV2_s, negE_ev, negK_ok, ifE_ev, ifV_t, ifV_f, chainE_ev, chK1_ok, chK2_ok, chK3_t, chK3_f, chK4_ok, partE_ev, partK_ok, noE_ev, sliceE_ev, slK1_ok, slK2_ok, slK3_ok, callE_ev, callK_ok, biE_ev, biK_ok, appE_ev, apK2_ok, getE_ev, geK2_ok, get2E_ev, gfK2_ok, gfK3_ok, geO_ok, asgN_ev, asgK_ok, asgT_ev, asgTK_ok, asgO_s, putE_ev, putK1_ok, putK2_ok, putK3_ok, putK4_ok, retE_ev, retK_ok, retN_ev, exprS_ev, exprK_ok, passS_ev, breakS_ev, contS_ev, ifS_ev, ifK_t, ifK_f, blkS_nil, blkS_cons, blkK_n, blkK_r, blkK_b, blkK_c, finK_r, finK_n, stT_nm, stT_tp, stTs_nil, stTs_cons, stO_s, Ev.add_int, Ev.sub_int, mul_intE, div_int, mod_intE, lt_intE, gt_intE, le_intE, ge_intE, eq_intE, ne_intE, eq_strE, ne_strE, eq_blE, ne_blE, is_nonE, is_blE, isnot_nonE, idx_lst, idx_tup, idx_refI, idx_refS, idx_dctI, idx_dctS, setL_lst, setL_str, ix4_0, ix4_1, ix4_2, ix4_3, fin_f, List.map, List.replicate, List.length_cons, List.length_nil, List.nil_append, List.cons_append, List.getElem?_cons_zero, List.getElem?_cons_succ, List.set_cons_zero, List.set_cons_succ, if_true, if_false, decide_true, decide_false, Bool.not_true, Bool.not_false, ite_true, ite_false, Ev.bi_len, lenO_s, bi_int, bi_intb, bi_abs, bi_min, bi_max, bi_gcd, bi_str, tr_bl, tr_int, Nat.sub_self, Nat.zero_add, Nat.reduceAdd, Nat.reduceSub, atI_0, atI_1, atI_2, atI_3, atI_4, Int.reduceNeg, Ev.pow_int, and_self, Bool.false_eq_true, reduceCtorEq, Option.bind_some, Option.bind_none, id_eq, Int.le_refl, Int.lt_irrefl, Int.reduceEq, Int.reduceNe, Int.reduceLT, Int.reduceLE, Int.reducePow, Int.reduceToNat, Int.reduceAbs, Nat.reducePow, Nat.reduceLT, Nat.reduceLeDiff, Nat.reduceEqDiff, Nat.reduceMul, len_lst, List.length_map, q2, cf, mx, false_and, and_false]
  · simp -implicitDefEqProofs only [varE_ev, cE_ev, argsE_nil, argsE_cons, aK1_ok, aK2_ok, tupE_ev, tupK_ok, lstE_ev, lstK_ok, dctE_ev, newL_t, newL_f, newD_t, newD_f, binE_ev, binK1_ok, binK2_ok, idxE_ev, idxK1_ok, idxK2_ok, cmpE_ev, cmpK1_ok, cmpK2_ok, optV_s, optB_s, testB_ev, testK_ok, truE_ev, truK_ok, truO_s, notT_ev, notK_ok, andT_ev, andK_t, andK_f, orT_ev, orK_t, orK_f, andE_ev, andV1_ok, andV2_t, andV2_f, orE_ev, orV1_ok, orV2_t, orV2_f, notE_ev, notV1_ok, notV2_s, negE_ev, negK_ok, ifE_ev, ifV_t, ifV_f, chainE_ev, chK1_ok, chK2_ok, chK3_t, chK3_f, chK4_ok, partE_ev, partK_ok, noE_ev, sliceE_ev, slK1_ok, slK2_ok, slK3_ok, callE_ev, callK_ok, biE_ev, biK_ok, appE_ev, apK2_ok, getE_ev, geK2_ok, get2E_ev, gfK2_ok, gfK3_ok, geO_ok, asgN_ev, asgK_ok, asgT_ev, asgTK_ok, asgO_s, putE_ev, putK1_ok, putK2_ok, putK3_ok, putK4_ok, retE_ev, retK_ok, retN_ev, exprS_ev, exprK_ok, passS_ev, breakS_ev, contS_ev, ifS_ev, ifK_t, ifK_f, blkS_nil, blkS_cons, blkK_n, blkK_r, blkK_b, blkK_c, finK_r, finK_n, stT_nm, stT_tp, stTs_nil, stTs_cons, stO_s, Ev.add_int, Ev.sub_int, mul_intE, div_int, mod_intE, lt_intE, gt_intE, le_intE, ge_intE, eq_intE, ne_intE, eq_strE, ne_strE, eq_blE, ne_blE, is_nonE, is_blE, isnot_nonE, idx_lst, idx_tup, idx_refI, idx_refS, idx_dctI, idx_dctS, setL_lst, setL_str, ix4_0, ix4_1, ix4_2, ix4_3, fin_f, List.map, List.replicate, List.length_cons, List.length_nil, List.nil_append, List.cons_append, List.getElem?_cons_zero, List.getElem?_cons_succ, List.set_cons_zero, List.set_cons_succ, if_true, if_false, decide_true, decide_false, Bool.not_true, Bool.not_false, ite_true, ite_false, Ev.bi_len, lenO_s, bi_int, bi_intb, bi_abs, bi_min, bi_max, bi_gcd, bi_str, tr_bl, tr_int, Nat.sub_self, Nat.zero_add, Nat.reduceAdd, Nat.reduceSub, atI_0, atI_1, atI_2, atI_3, atI_4, Int.reduceNeg, Ev.pow_int, and_self, Bool.false_eq_true, reduceCtorEq, Option.bind_some, Option.bind_none, id_eq, Int.le_refl, Int.lt_irrefl, Int.reduceEq, Int.reduceNe, Int.reduceLT, Int.reduceLE, Int.reducePow, Int.reduceToNat, Int.reduceAbs, Nat.reducePow, Nat.reduceLT, Nat.reduceLeDiff, Nat.reduceEqDiff, Nat.reduceMul, q1, cf, mx, false_and]
/-- _law_pool(script) -/
theorem pool_eq (h1 : Has T "_law_mixed" 5 false b_law_mixed) (h2 : Has T "_law_rest" 4 false b_law_rest) (h3 : Has T "_law_pool" 1 false b_law_pool) (k : Nat) {script : List Int} (L : List LO) (s1 : ∀ z ∈ script, lg z ≤ 1048576) (s2 : script.length ≤ 63) :
    ∃ p : Pl, PlOk 100000000 p ∧ evCall T (k + 3) "_law_pool" [.lst (script.map .int)] L = .ok (.ref L.length) (L ++ [p.lo]) := by
  have e := rest_eq h1 h2 k (script := script) (place := 0) (fills := 0) L s1 s2 (by decide) (by decide) (by decide) (by decide)
  obtain ⟨r1, r2⟩ := rest_ok (script := script) (place := 0) (fills := 0) s1 (by decide) (by decide) (by decide) (by decide)
  refine ⟨⟨script, 0, rest script 0 0, 0⟩, ⟨s1, s2, by simp, by simp, by simp, by simp, r1, r2⟩, ?_⟩
  rw [call_of h3]
  simp -implicitDefEqProofs only [varE_ev, cE_ev, argsE_nil, argsE_cons, aK1_ok, aK2_ok, tupE_ev, tupK_ok, lstE_ev, lstK_ok, dctE_ev, newL_t, newL_f, newD_t, newD_f, binE_ev, binK1_ok, binK2_ok, idxE_ev, idxK1_ok, idxK2_ok, cmpE_ev, cmpK1_ok, cmpK2_ok, optV_s, optB_s, testB_ev, testK_ok, truE_ev, truK_ok, truO_s, notT_ev, notK_ok, andT_ev, andK_t, andK_f, orT_ev, orK_t, orK_f, andE_ev, andV1_ok, andV2_t, andV2_f, orE_ev, orV1_ok, orV2_t, orV2_f, notE_ev, notV1_ok, notV2_s, negE_ev, negK_ok, ifE_ev, ifV_t, ifV_f, chainE_ev, chK1_ok, chK2_ok, chK3_t, chK3_f, chK4_ok, partE_ev, partK_ok, noE_ev, sliceE_ev, slK1_ok, slK2_ok, slK3_ok, callE_ev, callK_ok, biE_ev, biK_ok, appE_ev, apK2_ok, getE_ev, geK2_ok, get2E_ev, gfK2_ok, gfK3_ok, geO_ok, asgN_ev, asgK_ok, asgT_ev, asgTK_ok, asgO_s, putE_ev, putK1_ok, putK2_ok, putK3_ok, putK4_ok, retE_ev, retK_ok, retN_ev, exprS_ev, exprK_ok, passS_ev, breakS_ev, contS_ev, ifS_ev, ifK_t, ifK_f, blkS_nil, blkS_cons, blkK_n, blkK_r, blkK_b, blkK_c, finK_r, finK_n, stT_nm, stT_tp, stTs_nil, stTs_cons, stO_s, Ev.add_int, Ev.sub_int, mul_intE, div_int, mod_intE, lt_intE, gt_intE, le_intE, ge_intE, eq_intE, ne_intE, eq_strE, ne_strE, eq_blE, ne_blE, is_nonE, is_blE, isnot_nonE, idx_lst, idx_tup, idx_refI, idx_refS, idx_dctI, idx_dctS, setL_lst, setL_str, ix4_0, ix4_1, ix4_2, ix4_3, fin_f, List.map, List.replicate, List.length_cons, List.length_nil, List.nil_append, List.cons_append, List.getElem?_cons_zero, List.getElem?_cons_succ, List.set_cons_zero, List.set_cons_succ, if_true, if_false, decide_true, decide_false, Bool.not_true, Bool.not_false, ite_true, ite_false, Ev.bi_len, lenO_s, bi_int, bi_intb, bi_abs, bi_min, bi_max, bi_gcd, bi_str, tr_bl, tr_int, Nat.sub_self, Nat.zero_add, Nat.reduceAdd, Nat.reduceSub, atI_0, atI_1, atI_2, atI_3, atI_4, Int.reduceNeg, Ev.pow_int, and_self, Bool.false_eq_true, reduceCtorEq, Option.bind_some, Option.bind_none, id_eq, Int.le_refl, Int.lt_irrefl, Int.reduceEq, Int.reduceNe, Int.reduceLT, Int.reduceLE, Int.reducePow, Int.reduceToNat, Int.reduceAbs, Nat.reducePow, Nat.reduceLT, Nat.reduceLeDiff, Nat.reduceEqDiff, Nat.reduceMul, b_law_pool, e, Pl.lo]
/-- _law_next(pool) -/
theorem next_eq (h1 : Has T "_law_mixed" 5 false b_law_mixed) (h2 : Has T "_law_rest" 4 false b_law_rest) (h3 : Has T "_law_next" 1 false b_law_next) (k : Nat) {b i : Nat} {p : Pl} {L : List LO} (hL : L[i]? = some p.lo) (hp : PlOk (b + 1) p) :
    ∃ p' : Pl, PlOk b p' ∧ evCall T (k + 3) "_law_next" [.ref i] L = .ok .non (L.set i p'.lo) := by
  have hi := (List.getElem?_eq_some_iff.mp hL).1
  have q1 := hp.p1
  have q2 := hp.p2
  have e := fun L => rest_eq h1 h2 k (script := p.script) (place := p.place + 1) (fills := 0) L hp.s1 hp.s2 (by omega) (by omega) (by decide) (by decide)
  obtain ⟨r1, r2⟩ := rest_ok (script := p.script) (place := p.place + 1) (fills := 0) hp.s1 (by omega) (by omega) (by decide) (by decide)
  refine ⟨⟨p.script, p.place + 1, rest p.script (p.place + 1) 0, 0⟩, ⟨hp.s1, hp.s2, by dsimp only; omega, by dsimp only; omega, by simp, by dsimp only; omega, r1, r2⟩, ?_⟩
  unfold Pl.lo at hL
  rw [call_of h3]
  simp -implicitDefEqProofs only [varE_ev, cE_ev, argsE_nil, argsE_cons, aK1_ok, aK2_ok, tupE_ev, tupK_ok, lstE_ev, lstK_ok, dctE_ev, newL_t, newL_f, newD_t, newD_f, binE_ev, binK1_ok, binK2_ok, idxE_ev, idxK1_ok, idxK2_ok, cmpE_ev, cmpK1_ok, cmpK2_ok, optV_s, optB_s, testB_ev, testK_ok, truE_ev, truK_ok, truO_s, notT_ev, notK_ok, andT_ev, andK_t, andK_f, orT_ev, orK_t, orK_f, andE_ev, andV1_ok, andV2_t, andV2_f, orE_ev, orV1_ok, orV2_t, orV2_f, notE_ev, notV1_ok, notV2_s, negE_ev, negK_ok, ifE_ev, ifV_t, ifV_f, chainE_ev, chK1_ok, chK2_ok, chK3_t, chK3_f, chK4_ok, partE_ev, partK_ok, noE_ev, sliceE_ev, slK1_ok, slK2_ok, slK3_ok, callE_ev, callK_ok, biE_ev, biK_ok, appE_ev, apK2_ok, getE_ev, geK2_ok, get2E_ev, gfK2_ok, gfK3_ok, geO_ok, asgN_ev, asgK_ok, asgT_ev, asgTK_ok, asgO_s, putE_ev, putK1_ok, putK2_ok, putK3_ok, putK4_ok, retE_ev, retK_ok, retN_ev, exprS_ev, exprK_ok, passS_ev, breakS_ev, contS_ev, ifS_ev, ifK_t, ifK_f, blkS_nil, blkS_cons, blkK_n, blkK_r, blkK_b, blkK_c, finK_r, finK_n, stT_nm, stT_tp, stTs_nil, stTs_cons, stO_s, Ev.add_int, Ev.sub_int, mul_intE, div_int, mod_intE, lt_intE, gt_intE, le_intE, ge_intE, eq_intE, ne_intE, eq_strE, ne_strE, eq_blE, ne_blE, is_nonE, is_blE, isnot_nonE, idx_lst, idx_tup, idx_refI, idx_refS, idx_dctI, idx_dctS, setL_lst, setL_str, ix4_0, ix4_1, ix4_2, ix4_3, fin_f, List.map, List.replicate, List.length_cons, List.length_nil, List.nil_append, List.cons_append, List.getElem?_cons_zero, List.getElem?_cons_succ, List.set_cons_zero, List.set_cons_succ, if_true, if_false, decide_true, decide_false, Bool.not_true, Bool.not_false, ite_true, ite_false, Ev.bi_len, lenO_s, bi_int, bi_intb, bi_abs, bi_min, bi_max, bi_gcd, bi_str, tr_bl, tr_int, Nat.sub_self, Nat.zero_add, Nat.reduceAdd, Nat.reduceSub, atI_0, atI_1, atI_2, atI_3, atI_4, Int.reduceNeg, Ev.pow_int, and_self, Bool.false_eq_true, reduceCtorEq, Option.bind_some, Option.bind_none, id_eq, Int.le_refl, Int.lt_irrefl, Int.reduceEq, Int.reduceNe, Int.reduceLT, Int.reduceLE, Int.reducePow, Int.reduceToNat, Int.reduceAbs, Nat.reducePow, Nat.reduceLT, Nat.reduceLeDiff, Nat.reduceEqDiff, Nat.reduceMul, b_law_next, hL, e, Pl.lo, List.getElem?_set_self hi, List.set_set, Nat.reduceSub]
/-- _law_draw(pool, limit) -/
theorem draw_eq (h1 : Has T "_law_mixed" 5 false b_law_mixed) (h2 : Has T "_law_rest" 4 false b_law_rest) (h3 : Has T "_law_draw" 3 false b_law_draw) (k : Nat) {b i : Nat} {p : Pl} {L : List LO} {lim : Int} (hL : L[i]? = some p.lo) (hp : PlOk (b + 1) p) (hl : 0 < lim) (h9 : lg lim < 9000) :
    ∃ (v : Int) (p' : Pl), 0 ≤ v ∧ v < lim ∧ PlOk b p' ∧ evCall T (k + 3) "_law_draw" [.ref i, .int lim] L = .ok (.int v) (L.set i p'.lo) := by
  have hi := (List.getElem?_eq_some_iff.mp hL).1
  have hd : divOk lim := divOk_of (by omega) h9
  have fd : ∀ n : Int, Int.fdiv n lim = n / lim := fun n => Int.fdiv_eq_ediv_of_nonneg n (by omega)
  have q1 := hp.f1
  have q2 := hp.f2
  have q3 := hp.p1
  have q4 := hp.p2
  unfold Pl.lo at hL
  by_cases hn : p.number ≤ 1
  · have e := fun L => rest_eq h1 h2 k (script := p.script) (place := p.place) (fills := p.fills + 1) L hp.s1 hp.s2 (by omega) (by omega) (by omega) (by omega)
    obtain ⟨r1, r2⟩ := rest_ok (script := p.script) (place := p.place) (fills := p.fills + 1) hp.s1 (by omega) (by omega) (by omega) (by omega)
    refine ⟨rest p.script p.place (p.fills + 1) % lim, ⟨p.script, p.place, rest p.script p.place (p.fills + 1) / lim, p.fills + 1⟩, Int.emod_nonneg _ (by omega), Int.emod_lt_of_pos _ hl, ⟨hp.s1, hp.s2, q3, by dsimp only; omega, by dsimp only; omega, by dsimp only; omega, Int.ediv_nonneg r1 (by omega), Nat.le_trans (lg_div hl r1) r2⟩, ?_⟩
    rw [call_of h3]
    simp -implicitDefEqProofs only [varE_ev, cE_ev, argsE_nil, argsE_cons, aK1_ok, aK2_ok, tupE_ev, tupK_ok, lstE_ev, lstK_ok, dctE_ev, newL_t, newL_f, newD_t, newD_f, binE_ev, binK1_ok, binK2_ok, idxE_ev, idxK1_ok, idxK2_ok, cmpE_ev, cmpK1_ok, cmpK2_ok, optV_s, optB_s, testB_ev, testK_ok, truE_ev, truK_ok, truO_s, notT_ev, notK_ok, andT_ev, andK_t, andK_f, orT_ev, orK_t, orK_f, andE_ev, andV1_ok, andV2_t, andV2_f, orE_ev, orV1_ok, orV2_t, orV2_f, notE_ev, notV1_ok, notV2_s, negE_ev, negK_ok, ifE_ev, ifV_t, ifV_f, chainE_ev, chK1_ok, chK2_ok, chK3_t, chK3_f, chK4_ok, partE_ev, partK_ok, noE_ev, sliceE_ev, slK1_ok, slK2_ok, slK3_ok, callE_ev, callK_ok, biE_ev, biK_ok, appE_ev, apK2_ok, getE_ev, geK2_ok, get2E_ev, gfK2_ok, gfK3_ok, geO_ok, asgN_ev, asgK_ok, asgT_ev, asgTK_ok, asgO_s, putE_ev, putK1_ok, putK2_ok, putK3_ok, putK4_ok, retE_ev, retK_ok, retN_ev, exprS_ev, exprK_ok, passS_ev, breakS_ev, contS_ev, ifS_ev, ifK_t, ifK_f, blkS_nil, blkS_cons, blkK_n, blkK_r, blkK_b, blkK_c, finK_r, finK_n, stT_nm, stT_tp, stTs_nil, stTs_cons, stO_s, Ev.add_int, Ev.sub_int, mul_intE, div_int, mod_intE, lt_intE, gt_intE, le_intE, ge_intE, eq_intE, ne_intE, eq_strE, ne_strE, eq_blE, ne_blE, is_nonE, is_blE, isnot_nonE, idx_lst, idx_tup, idx_refI, idx_refS, idx_dctI, idx_dctS, setL_lst, setL_str, ix4_0, ix4_1, ix4_2, ix4_3, fin_f, List.map, List.replicate, List.length_cons, List.length_nil, List.nil_append, List.cons_append, List.getElem?_cons_zero, List.getElem?_cons_succ, List.set_cons_zero, List.set_cons_succ, if_true, if_false, decide_true, decide_false, Bool.not_true, Bool.not_false, ite_true, ite_false, Ev.bi_len, lenO_s, bi_int, bi_intb, bi_abs, bi_min, bi_max, bi_gcd, bi_str, tr_bl, tr_int, Nat.sub_self, Nat.zero_add, Nat.reduceAdd, Nat.reduceSub, atI_0, atI_1, atI_2, atI_3, atI_4, Int.reduceNeg, Ev.pow_int, and_self, Bool.false_eq_true, reduceCtorEq, Option.bind_some, Option.bind_none, id_eq, Int.le_refl, Int.lt_irrefl, Int.reduceEq, Int.reduceNe, Int.reduceLT, Int.reduceLE, Int.reducePow, Int.reduceToNat, Int.reduceAbs, Nat.reducePow, Nat.reduceLT, Nat.reduceLeDiff, Nat.reduceEqDiff, Nat.reduceMul, b_law_draw, hL, e, Pl.lo, hn, hl, hd, fd, List.getElem?_set_self hi, List.set_set]
  · refine ⟨p.number % lim, ⟨p.script, p.place, p.number / lim, p.fills⟩, Int.emod_nonneg _ (by omega), Int.emod_lt_of_pos _ hl, ⟨hp.s1, hp.s2, q3, by dsimp only; omega, q1, by dsimp only; omega, Int.ediv_nonneg hp.n1 (by omega), Nat.le_trans (lg_div hl hp.n1) hp.n2⟩, ?_⟩
    rw [call_of h3]
    simp -implicitDefEqProofs only [varE_ev, cE_ev, argsE_nil, argsE_cons, aK1_ok, aK2_ok, tupE_ev, tupK_ok, lstE_ev, lstK_ok, dctE_ev, newL_t, newL_f, newD_t, newD_f, binE_ev, binK1_ok, binK2_ok, idxE_ev, idxK1_ok, idxK2_ok, cmpE_ev, cmpK1_ok, cmpK2_ok, optV_s, optB_s, testB_ev, testK_ok, truE_ev, truK_ok, truO_s, notT_ev, notK_ok, andT_ev, andK_t, andK_f, orT_ev, orK_t, orK_f, andE_ev, andV1_ok, andV2_t, andV2_f, orE_ev, orV1_ok, orV2_t, orV2_f, notE_ev, notV1_ok, notV2_s, negE_ev, negK_ok, ifE_ev, ifV_t, ifV_f, chainE_ev, chK1_ok, chK2_ok, chK3_t, chK3_f, chK4_ok, partE_ev, partK_ok, noE_ev, sliceE_ev, slK1_ok, slK2_ok, slK3_ok, callE_ev, callK_ok, biE_ev, biK_ok, appE_ev, apK2_ok, getE_ev, geK2_ok, get2E_ev, gfK2_ok, gfK3_ok, geO_ok, asgN_ev, asgK_ok, asgT_ev, asgTK_ok, asgO_s, putE_ev, putK1_ok, putK2_ok, putK3_ok, putK4_ok, retE_ev, retK_ok, retN_ev, exprS_ev, exprK_ok, passS_ev, breakS_ev, contS_ev, ifS_ev, ifK_t, ifK_f, blkS_nil, blkS_cons, blkK_n, blkK_r, blkK_b, blkK_c, finK_r, finK_n, stT_nm, stT_tp, stTs_nil, stTs_cons, stO_s, Ev.add_int, Ev.sub_int, mul_intE, div_int, mod_intE, lt_intE, gt_intE, le_intE, ge_intE, eq_intE, ne_intE, eq_strE, ne_strE, eq_blE, ne_blE, is_nonE, is_blE, isnot_nonE, idx_lst, idx_tup, idx_refI, idx_refS, idx_dctI, idx_dctS, setL_lst, setL_str, ix4_0, ix4_1, ix4_2, ix4_3, fin_f, List.map, List.replicate, List.length_cons, List.length_nil, List.nil_append, List.cons_append, List.getElem?_cons_zero, List.getElem?_cons_succ, List.set_cons_zero, List.set_cons_succ, if_true, if_false, decide_true, decide_false, Bool.not_true, Bool.not_false, ite_true, ite_false, Ev.bi_len, lenO_s, bi_int, bi_intb, bi_abs, bi_min, bi_max, bi_gcd, bi_str, tr_bl, tr_int, Nat.sub_self, Nat.zero_add, Nat.reduceAdd, Nat.reduceSub, atI_0, atI_1, atI_2, atI_3, atI_4, Int.reduceNeg, Ev.pow_int, and_self, Bool.false_eq_true, reduceCtorEq, Option.bind_some, Option.bind_none, id_eq, Int.le_refl, Int.lt_irrefl, Int.reduceEq, Int.reduceNe, Int.reduceLT, Int.reduceLE, Int.reducePow, Int.reduceToNat, Int.reduceAbs, Nat.reducePow, Nat.reduceLT, Nat.reduceLeDiff, Nat.reduceEqDiff, Nat.reduceMul, b_law_draw, hL, Pl.lo, hn, hl, hd, fd, List.getElem?_set_self hi, List.set_set]
/-- _law_pick(pool, options), options a list that nobody changes -/
theorem pick_eq (h1 : Has T "_law_mixed" 5 false b_law_mixed) (h2 : Has T "_law_rest" 4 false b_law_rest) (h3 : Has T "_law_draw" 3 false b_law_draw) (h4 : Has T "_law_pick" 2 false b_law_pick) (k : Nat) {b i : Nat} {p : Pl} {L : List LO} {xs : List LV} (hL : L[i]? = some p.lo) (hp : PlOk (b + 1) p) (hl : xs ≠ []) (h9 : xs.length ≤ 1000000) :
    ∃ (v : LV) (p' : Pl), v ∈ xs ∧ PlOk b p' ∧ evCall T (k + 4) "_law_pick" [.ref i, .lst xs] L = .ok v (L.set i p'.lo) := by
  have hp0 : 0 < xs.length := List.length_pos_iff.mpr hl
  obtain ⟨v, p', v0, v1, hp', e⟩ := draw_eq h1 h2 h3 k (lim := xs.length) hL hp (by omega) (by
    have : lg (xs.length : Int) ≤ 30 := lg_of (by omega)
    omega)
  obtain ⟨x, x1, x2⟩ := atI_of (xs := xs) v0 v1
  refine ⟨x, p', List.mem_of_getElem? x2, hp', ?_⟩
  rw [call_of h4]
  simp -implicitDefEqProofs only [varE_ev, cE_ev, argsE_nil, argsE_cons, aK1_ok, aK2_ok, tupE_ev, tupK_ok, lstE_ev, lstK_ok, dctE_ev, newL_t, newL_f, newD_t, newD_f, binE_ev, binK1_ok, binK2_ok, idxE_ev, idxK1_ok, idxK2_ok, cmpE_ev, cmpK1_ok, cmpK2_ok, optV_s, optB_s, testB_ev, testK_ok, truE_ev, truK_ok, truO_s, notT_ev, notK_ok, andT_ev, andK_t, andK_f, orT_ev, orK_t, orK_f, andE_ev, andV1_ok, andV2_t, andV2_f, orE_ev, orV1_ok, orV2_t, orV2_f, notE_ev, notV1_ok, notV2_s, negE_ev, negK_ok, ifE_ev, ifV_t, ifV_f, chainE_ev, chK1_ok, chK2_ok, chK3_t, chK3_f, chK4_ok, partE_ev, partK_ok, noE_ev, sliceE_ev, slK1_ok, slK2_ok, slK3_ok, callE_ev, callK_ok, biE_ev, biK_ok, appE_ev, apK2_ok, getE_ev, geK2_ok, get2E_ev, gfK2_ok, gfK3_ok, geO_ok, asgN_ev, asgK_ok, asgT_ev, asgTK_ok, asgO_s, putE_ev, putK1_ok, putK2_ok, putK3_ok, putK4_ok, retE_ev, retK_ok, retN_ev, exprS_ev, exprK_ok, passS_ev, breakS_ev, contS_ev, ifS_ev, ifK_t, ifK_f, blkS_nil, blkS_cons, blkK_n, blkK_r, blkK_b, blkK_c, finK_r, finK_n, stT_nm, stT_tp, stTs_nil, stTs_cons, stO_s, Ev.add_int, Ev.sub_int, mul_intE, div_int, mod_intE, lt_intE, gt_intE, le_intE, ge_intE, eq_intE, ne_intE, eq_strE, ne_strE, eq_blE, ne_blE, is_nonE, is_blE, isnot_nonE, idx_lst, idx_tup, idx_refI, idx_refS, idx_dctI, idx_dctS, setL_lst, setL_str, ix4_0, ix4_1, ix4_2, ix4_3, fin_f, List.map, List.replicate, List.length_cons, List.length_nil, List.nil_append, List.cons_append, List.getElem?_cons_zero, List.getElem?_cons_succ, List.set_cons_zero, List.set_cons_succ, if_true, if_false, decide_true, decide_false, Bool.not_true, Bool.not_false, ite_true, ite_false, Ev.bi_len, lenO_s, bi_int, bi_intb, bi_abs, bi_min, bi_max, bi_gcd, bi_str, tr_bl, tr_int, Nat.sub_self, Nat.zero_add, Nat.reduceAdd, Nat.reduceSub, atI_0, atI_1, atI_2, atI_3, atI_4, Int.reduceNeg, Ev.pow_int, and_self, Bool.false_eq_true, reduceCtorEq, Option.bind_some, Option.bind_none, id_eq, Int.le_refl, Int.lt_irrefl, Int.reduceEq, Int.reduceNe, Int.reduceLT, Int.reduceLE, Int.reducePow, Int.reduceToNat, Int.reduceAbs, Nat.reducePow, Nat.reduceLT, Nat.reduceLeDiff, Nat.reduceEqDiff, Nat.reduceMul, b_law_pick, len_lst, e, x1]
end
end Ev

set_option maxHeartbeats 4000000
/-! Ev20: fractions. -/
namespace Ev
open PySem PySem.Spec PyProof.Rows L2
/-- a fraction as the program has it -/
def fr (q : Rat) : LV := .tup [.int q.num, .int (q.den : Int)]
theorem fr_int (i : Int) : fr (i : Rat) = .tup [.int i, .int 1] := by
  unfold fr
  rw [Rat.num_intCast, Rat.den_intCast]; rfl
theorem fr_0 : fr 0 = .tup [.int 0, .int 1] := fr_int 0
theorem fr_1 : fr 1 = .tup [.int 1, .int 1] := fr_int 1
theorem fr_inj {a b : Rat} (h : fr a = fr b) : a = b := by
  unfold fr at h
  injection h with h
  injection h with h1 h2
  injection h2 with h2 h3
  injection h1 with h1
  injection h2 with h2
  exact Rat.ext h1 (by omega)
theorem rat_self (a : Rat) : (a.num : Rat) / ((a.den : Int) : Rat) = a := by
  rw [← Rat.divInt_eq_div]
  exact Rat.num_divInt_den a
theorem den_pos (a : Rat) : 0 < (a.den : Int) := by have := a.den_pos; omega
theorem den_ne (a : Rat) : (a.den : Int) ≠ 0 := by have := den_pos a; omega
theorem denR_ne (a : Rat) : ((a.den : Int) : Rat) ≠ 0 := fun h => den_ne a (Rat.intCast_inj.mp (by rw [h]; rfl))
theorem rat_parts (p q : Int) (hq : q ≠ 0) : ∃ g p' q' : Int, g = (Nat.gcd p.natAbs q.natAbs : Nat) ∧ 0 < g ∧ p = g * p' ∧ q = g * q' ∧
    ((p : Rat) / (q : Rat)).num = (if q < 0 then -p' else p') ∧ (((p : Rat) / (q : Rat)).den : Int) = (if q < 0 then -q' else q') := by
  have hg : 0 < Nat.gcd p.natAbs q.natAbs := Nat.gcd_pos_of_pos_right _ (by omega)
  obtain ⟨p', hp'⟩ : ((Nat.gcd p.natAbs q.natAbs : Nat) : Int) ∣ p := by
    rw [Int.ofNat_dvd_left]
    exact Nat.gcd_dvd_left _ _
  obtain ⟨q', hq'⟩ : ((Nat.gcd p.natAbs q.natAbs : Nat) : Int) ∣ q := by
    rw [Int.ofNat_dvd_left]
    exact Nat.gcd_dvd_right _ _
  have hg2 : Int.gcd q p = Nat.gcd p.natAbs q.natAbs := by unfold Int.gcd; exact Nat.gcd_comm _ _
  refine ⟨_, p', q', rfl, by omega, hp', hq', ?_, ?_⟩
  · rw [← Rat.divInt_eq_div, Rat.num_divInt, hg2]
    generalize (Nat.gcd p.natAbs q.natAbs) = g at *
    have gz : (g : Int) ≠ 0 := by omega
    by_cases h : q < 0
    · rw [if_pos h, Int.sign_eq_neg_one_of_neg h, hp']
      rw [show (-1 : Int) * (↑g * p') = ↑g * (-p') by rw [Int.mul_neg, Int.neg_mul, Int.one_mul]]
      exact Int.mul_ediv_cancel_left _ gz
    · rw [if_neg h, Int.sign_eq_one_of_pos (by omega), hp', Int.one_mul]
      exact Int.mul_ediv_cancel_left _ gz
  · rw [← Rat.divInt_eq_div, Rat.den_divInt, hg2, if_neg hq]
    generalize (Nat.gcd p.natAbs q.natAbs) = g at *
    have gz : (g : Int) ≠ 0 := by omega
    have e : q.natAbs = g * q'.natAbs := by rw [hq', Int.natAbs_mul, Int.natAbs_natCast]
    rw [e, Nat.mul_div_cancel_left _ hg]
    by_cases h : q < 0
    · rw [if_pos h]
      have : q' < 0 := by
        rcases Int.lt_or_le q' 0 with z | z
        · exact z
        · have := Int.mul_nonneg (show 0 ≤ (g : Int) by omega) z; omega
      omega
    · rw [if_neg h]
      have : 0 ≤ q' := by
        rcases Int.lt_or_le q' 0 with z | z
        · have := Int.mul_neg_of_pos_of_neg (show 0 < (g : Int) by omega) z; omega
        · exact z
      omega
/-- how great a fraction's two integers are -/
structure Sz (n : Nat) (q : Rat) : Prop where
  a : lg q.num ≤ n
  b : lg (q.den : Int) ≤ n
theorem Sz.mono {m n : Nat} {q : Rat} (h : Sz m q) (l : m ≤ n) : Sz n q := ⟨Nat.le_trans h.a l, Nat.le_trans h.b l⟩
theorem natAbs_le_mul {g x : Int} (hg : 0 < g) : x.natAbs ≤ (g * x).natAbs := by
  rw [Int.natAbs_mul]
  exact Nat.le_mul_of_pos_left _ (by omega)
theorem sz_div {p q : Int} {n : Nat} (hq : q ≠ 0) (h1 : lg p ≤ n) (h2 : lg q ≤ n) : Sz n ((p : Rat) / (q : Rat)) := by
  obtain ⟨g, p', q', -, g0, ep, eq, en, ed⟩ := rat_parts p q hq
  have a1 : p'.natAbs ≤ p.natAbs := by rw [ep]; exact natAbs_le_mul g0
  have a2 : q'.natAbs ≤ q.natAbs := by rw [eq]; exact natAbs_le_mul g0
  refine ⟨Nat.le_trans (lg_le ?_) h1, Nat.le_trans (lg_le ?_) h2⟩
  · rw [en]; split <;> omega
  · rw [ed]; split <;> omega
theorem Sz.int {i : Int} {n : Nat} (h : lg i ≤ n) : Sz n (i : Rat) := ⟨by rw [Rat.num_intCast]; exact h, by rw [Rat.den_intCast]; exact Nat.le_trans (lg_lit 0) (Nat.zero_le _)⟩
theorem Sz.neg {n : Nat} {q : Rat} (h : Sz n q) : Sz n (-q) := ⟨by rw [Rat.neg_num, lg_neg]; exact h.a, by rw [Rat.neg_den]; exact h.b⟩
/-! the four by integers -/
theorem add_ints (a b : Rat) : ((a.num * (b.den : Int) + b.num * (a.den : Int) : Int) : Rat) / (((a.den : Int) * (b.den : Int) : Int) : Rat) = a + b := by
  have ha := denR_ne a
  have hb := denR_ne b
  have e1 := rat_self a
  have e2 := rat_self b
  rw [Rat.intCast_add, Rat.intCast_mul, Rat.intCast_mul, Rat.intCast_mul]
  generalize ((a.den : Int) : Rat) = da at *
  generalize ((b.den : Int) : Rat) = db at *
  generalize (a.num : Rat) = na at *
  generalize (b.num : Rat) = nb at *
  rw [← e1, ← e2]
  grind
theorem sub_ints (a b : Rat) : ((a.num * (b.den : Int) - b.num * (a.den : Int) : Int) : Rat) / (((a.den : Int) * (b.den : Int) : Int) : Rat) = a - b := by
  have ha := denR_ne a
  have hb := denR_ne b
  have e1 := rat_self a
  have e2 := rat_self b
  rw [Rat.intCast_sub, Rat.intCast_mul, Rat.intCast_mul, Rat.intCast_mul]
  generalize ((a.den : Int) : Rat) = da at *
  generalize ((b.den : Int) : Rat) = db at *
  generalize (a.num : Rat) = na at *
  generalize (b.num : Rat) = nb at *
  rw [← e1, ← e2]
  grind
theorem mul_ints (a b : Rat) : ((a.num * b.num : Int) : Rat) / (((a.den : Int) * (b.den : Int) : Int) : Rat) = a * b := by
  have ha := denR_ne a
  have hb := denR_ne b
  have e1 := rat_self a
  have e2 := rat_self b
  rw [Rat.intCast_mul, Rat.intCast_mul]
  generalize ((a.den : Int) : Rat) = da at *
  generalize ((b.den : Int) : Rat) = db at *
  generalize (a.num : Rat) = na at *
  generalize (b.num : Rat) = nb at *
  rw [← e1, ← e2]
  grind
theorem div_ints (a b : Rat) (h0 : b ≠ 0) : ((a.num * (b.den : Int) : Int) : Rat) / (((a.den : Int) * b.num : Int) : Rat) = a / b := by
  have ha := denR_ne a
  have hb := denR_ne b
  have e1 := rat_self a
  have e2 := rat_self b
  have hn : (b.num : Rat) ≠ 0 := fun h => h0 (Rat.num_eq_zero.mp (Rat.intCast_inj.mp (by rw [h]; rfl)))
  rw [Rat.intCast_mul, Rat.intCast_mul]
  generalize ((a.den : Int) : Rat) = da at *
  generalize ((b.den : Int) : Rat) = db at *
  generalize (a.num : Rat) = na at *
  generalize (b.num : Rat) = nb at *
  rw [← e1, ← e2]
  grind
theorem sz_add {m n : Nat} {a b : Rat} (ha : Sz m a) (hb : Sz n b) : Sz (m + n + 2) (a + b) := by
  rw [← add_ints]
  have h1 := lg_mul a.num b.den
  have h2 := lg_mul b.num a.den
  have h3 := lg_add (a.num * (b.den : Int)) (b.num * (a.den : Int))
  have h4 := lg_mul (a.den : Int) b.den
  have := ha.a; have := ha.b; have := hb.a; have := hb.b
  exact sz_div (Int.mul_ne_zero (den_ne a) (den_ne b)) (by omega) (by omega)
theorem sz_sub {m n : Nat} {a b : Rat} (ha : Sz m a) (hb : Sz n b) : Sz (m + n + 2) (a - b) := by
  rw [Rat.sub_eq_add_neg]; exact sz_add ha hb.neg
theorem sz_mul {m n : Nat} {a b : Rat} (ha : Sz m a) (hb : Sz n b) : Sz (m + n + 1) (a * b) := by
  rw [← mul_ints]
  have h1 := lg_mul a.num b.num
  have h4 := lg_mul (a.den : Int) b.den
  have := ha.a; have := ha.b; have := hb.a; have := hb.b
  exact sz_div (Int.mul_ne_zero (den_ne a) (den_ne b)) (by omega) (by omega)
theorem num_ne {b : Rat} (h0 : b ≠ 0) : b.num ≠ 0 := fun h => h0 (Rat.num_eq_zero.mp h)
theorem sz_quo {m n : Nat} {a b : Rat} (ha : Sz m a) (hb : Sz n b) (h0 : b ≠ 0) : Sz (m + n + 1) (a / b) := by
  rw [← div_ints a b h0]
  have h1 := lg_mul a.num b.den
  have h4 := lg_mul (a.den : Int) b.num
  have := ha.a; have := ha.b; have := hb.a; have := hb.b
  exact sz_div (Int.mul_ne_zero (den_ne a) (num_ne h0)) (by omega) (by omega)
theorem lg_gcd {p q : Int} (hq : q ≠ 0) : lg ((Nat.gcd p.natAbs q.natAbs : Nat) : Int) ≤ lg q := lg_le (by
  rw [Int.natAbs_natCast]
  exact Nat.le_of_dvd (by omega) (Nat.gcd_dvd_right _ _))
section
variable {T : List (Str × FB)}
/-- ratio(p, q) -/
theorem ratio_eq (hT : Has T "ratio" 3 false b_p_ratio) (k : Nat) {p q : Int} (L : List LO) (hq : q ≠ 0) (h9 : lg q < 9000) : evCall T (k + 1) "ratio" [.int p, .int q] L = .ok (fr ((p : Rat) / (q : Rat))) L := by
  have hg := lg_gcd (p := p) hq
  obtain ⟨g, p', q', eg, g0, ep, eq, en, ed⟩ := rat_parts p q hq
  rw [← eg] at hg
  unfold fr
  rw [en, ed, call_of hT]
  have gz : g ≠ 0 := by omega
  by_cases h : q < 0
  · have hd : divOk (-g) := divOk_of (by omega) (by rw [lg_neg]; omega)
    have f1 : Int.fdiv p (-g) = -p' := by
      rw [ep, show g * p' = (-g) * (-p') by rw [Int.neg_mul_neg]]
      exact Int.mul_fdiv_cancel_left _ (by omega)
    have f2 : Int.fdiv q (-g) = -q' := by
      conv => lhs; rw [eq, show g * q' = (-g) * (-q') by rw [Int.neg_mul_neg]]
      exact Int.mul_fdiv_cancel_left _ (by omega)
    rw [if_pos h, if_pos h]
    simp -implicitDefEqProofs only [varE_ev, cE_ev, argsE_nil, argsE_cons, aK1_ok, aK2_ok, tupE_ev, tupK_ok, lstE_ev, lstK_ok, dctE_ev, newL_t, newL_f, newD_t, newD_f, binE_ev, binK1_ok, binK2_ok, idxE_ev, idxK1_ok, idxK2_ok, cmpE_ev, cmpK1_ok, cmpK2_ok, optV_s, optB_s, testB_ev, testK_ok, truE_ev, truK_ok, truO_s, notT_ev, notK_ok, andT_ev, andK_t, andK_f, orT_ev, orK_t, orK_f, andE_ev, andV1_ok, andV2_t, andV2_f, orE_ev, orV1_ok, orV2_t, orV2_f, notE_ev, notV1_ok, notV2_s, negE_ev, negK_ok, ifE_ev, ifV_t, ifV_f, chainE_ev, chK1_ok, chK2_ok, chK3_t, chK3_f, chK4_ok, partE_ev, partK_ok, noE_ev, sliceE_ev, slK1_ok, slK2_ok, slK3_ok, callE_ev, callK_ok, biE_ev, biK_ok, appE_ev, apK2_ok, getE_ev, geK2_ok, get2E_ev, gfK2_ok, gfK3_ok, geO_ok, asgN_ev, asgK_ok, asgT_ev, asgTK_ok, asgO_s, putE_ev, putK1_ok, putK2_ok, putK3_ok, putK4_ok, retE_ev, retK_ok, retN_ev, exprS_ev, exprK_ok, passS_ev, breakS_ev, contS_ev, ifS_ev, ifK_t, ifK_f, blkS_nil, blkS_cons, blkK_n, blkK_r, blkK_b, blkK_c, finK_r, finK_n, stT_nm, stT_tp, stTs_nil, stTs_cons, stO_s, Ev.add_int, Ev.sub_int, mul_intE, div_int, mod_intE, lt_intE, gt_intE, le_intE, ge_intE, eq_intE, ne_intE, eq_strE, ne_strE, eq_blE, ne_blE, is_nonE, is_blE, isnot_nonE, idx_lst, idx_tup, idx_refI, idx_refS, idx_dctI, idx_dctS, setL_lst, setL_str, ix4_0, ix4_1, ix4_2, ix4_3, fin_f, List.map, List.replicate, List.length_cons, List.length_nil, List.nil_append, List.cons_append, List.getElem?_cons_zero, List.getElem?_cons_succ, List.set_cons_zero, List.set_cons_succ, if_true, if_false, decide_true, decide_false, Bool.not_true, Bool.not_false, ite_true, ite_false, Ev.bi_len, lenO_s, bi_int, bi_intb, bi_abs, bi_min, bi_max, bi_gcd, bi_str, tr_bl, tr_int, Nat.sub_self, Nat.zero_add, Nat.reduceAdd, Nat.reduceSub, atI_0, atI_1, atI_2, atI_3, atI_4, Int.reduceNeg, Ev.pow_int, and_self, Bool.false_eq_true, reduceCtorEq, Option.bind_some, Option.bind_none, id_eq, Int.le_refl, Int.lt_irrefl, Int.reduceEq, Int.reduceNe, Int.reduceLT, Int.reduceLE, Int.reducePow, Int.reduceToNat, Int.reduceAbs, Nat.reducePow, Nat.reduceLT, Nat.reduceLeDiff, Nat.reduceEqDiff, Nat.reduceMul, b_p_ratio, ← eg, h, hd, f1, f2]
  · have hd : divOk g := divOk_of gz (by omega)
    have f1 : Int.fdiv p g = p' := by rw [ep]; exact Int.mul_fdiv_cancel_left _ gz
    have f2 : Int.fdiv q g = q' := by
      conv => lhs; rw [eq]
      exact Int.mul_fdiv_cancel_left _ gz
    rw [if_neg h, if_neg h]
    simp -implicitDefEqProofs only [varE_ev, cE_ev, argsE_nil, argsE_cons, aK1_ok, aK2_ok, tupE_ev, tupK_ok, lstE_ev, lstK_ok, dctE_ev, newL_t, newL_f, newD_t, newD_f, binE_ev, binK1_ok, binK2_ok, idxE_ev, idxK1_ok, idxK2_ok, cmpE_ev, cmpK1_ok, cmpK2_ok, optV_s, optB_s, testB_ev, testK_ok, truE_ev, truK_ok, truO_s, notT_ev, notK_ok, andT_ev, andK_t, andK_f, orT_ev, orK_t, orK_f, andE_ev, andV1_ok, andV2_t, andV2_f, orE_ev, orV1_ok, orV2_t, orV2_f, notE_ev, notV1_ok, notV2_s, negE_ev, negK_ok, ifE_ev, ifV_t, ifV_f, chainE_ev, chK1_ok, chK2_ok, chK3_t, chK3_f, chK4_ok, partE_ev, partK_ok, noE_ev, sliceE_ev, slK1_ok, slK2_ok, slK3_ok, callE_ev, callK_ok, biE_ev, biK_ok, appE_ev, apK2_ok, getE_ev, geK2_ok, get2E_ev, gfK2_ok, gfK3_ok, geO_ok, asgN_ev, asgK_ok, asgT_ev, asgTK_ok, asgO_s, putE_ev, putK1_ok, putK2_ok, putK3_ok, putK4_ok, retE_ev, retK_ok, retN_ev, exprS_ev, exprK_ok, passS_ev, breakS_ev, contS_ev, ifS_ev, ifK_t, ifK_f, blkS_nil, blkS_cons, blkK_n, blkK_r, blkK_b, blkK_c, finK_r, finK_n, stT_nm, stT_tp, stTs_nil, stTs_cons, stO_s, Ev.add_int, Ev.sub_int, mul_intE, div_int, mod_intE, lt_intE, gt_intE, le_intE, ge_intE, eq_intE, ne_intE, eq_strE, ne_strE, eq_blE, ne_blE, is_nonE, is_blE, isnot_nonE, idx_lst, idx_tup, idx_refI, idx_refS, idx_dctI, idx_dctS, setL_lst, setL_str, ix4_0, ix4_1, ix4_2, ix4_3, fin_f, List.map, List.replicate, List.length_cons, List.length_nil, List.nil_append, List.cons_append, List.getElem?_cons_zero, List.getElem?_cons_succ, List.set_cons_zero, List.set_cons_succ, if_true, if_false, decide_true, decide_false, Bool.not_true, Bool.not_false, ite_true, ite_false, Ev.bi_len, lenO_s, bi_int, bi_intb, bi_abs, bi_min, bi_max, bi_gcd, bi_str, tr_bl, tr_int, Nat.sub_self, Nat.zero_add, Nat.reduceAdd, Nat.reduceSub, atI_0, atI_1, atI_2, atI_3, atI_4, Int.reduceNeg, Ev.pow_int, and_self, Bool.false_eq_true, reduceCtorEq, Option.bind_some, Option.bind_none, id_eq, Int.le_refl, Int.lt_irrefl, Int.reduceEq, Int.reduceNe, Int.reduceLT, Int.reduceLE, Int.reducePow, Int.reduceToNat, Int.reduceAbs, Nat.reducePow, Nat.reduceLT, Nat.reduceLeDiff, Nat.reduceEqDiff, Nat.reduceMul, b_p_ratio, ← eg, h, hd, f1, f2]
theorem mulN {a b : Rat} {m n : Nat} (ha : Sz m a) (hb : Sz n b) (h : m + n < 9000) : mulOk a.num b.den ∧ mulOk b.num a.den ∧ mulOk a.den b.den ∧ mulOk a.num b.num ∧ mulOk a.den b.num := by
  have := ha.a; have := ha.b; have := hb.a; have := hb.b
  exact ⟨mulOk_of (by omega), mulOk_of (by omega), mulOk_of (by omega), mulOk_of (by omega), mulOk_of (by omega)⟩
theorem added_eq (hR : Has T "ratio" 3 false b_p_ratio) (hT : Has T "added" 2 false b_p_added) (k : Nat) {a b : Rat} {m n : Nat} (L : List LO) (ha : Sz m a) (hb : Sz n b) (h : m + n < 8990) : evCall T (k + 2) "added" [fr a, fr b] L = .ok (fr (a + b)) L := by
  obtain ⟨c1, c2, c3, c4, c5⟩ := mulN ha hb (by omega)
  have := lg_mul (a.den : Int) b.den
  have := ha.b; have := hb.b
  have r := ratio_eq hR k (p := a.num * b.den + b.num * a.den) (q := a.den * b.den) L (Int.mul_ne_zero (den_ne a) (den_ne b)) (by omega)
  rw [add_ints] at r
  rw [call_of hT]
  simp -implicitDefEqProofs only [varE_ev, cE_ev, argsE_nil, argsE_cons, aK1_ok, aK2_ok, tupE_ev, tupK_ok, lstE_ev, lstK_ok, dctE_ev, newL_t, newL_f, newD_t, newD_f, binE_ev, binK1_ok, binK2_ok, idxE_ev, idxK1_ok, idxK2_ok, cmpE_ev, cmpK1_ok, cmpK2_ok, optV_s, optB_s, testB_ev, testK_ok, truE_ev, truK_ok, truO_s, notT_ev, notK_ok, andT_ev, andK_t, andK_f, orT_ev, orK_t, orK_f, andE_ev, andV1_ok, andV2_t, andV2_f, orE_ev, orV1_ok, orV2_t, orV2_f, notE_ev, notV1_ok, notV2_s, negE_ev, negK_ok, ifE_ev, ifV_t, ifV_f, chainE_ev, chK1_ok, chK2_ok, chK3_t, chK3_f, chK4_ok, partE_ev, partK_ok, noE_ev, sliceE_ev, slK1_ok, slK2_ok, slK3_ok, callE_ev, callK_ok, biE_ev, biK_ok, appE_ev, apK2_ok, getE_ev, geK2_ok, get2E_ev, gfK2_ok, gfK3_ok, geO_ok, asgN_ev, asgK_ok, asgT_ev, asgTK_ok, asgO_s, putE_ev, putK1_ok, putK2_ok, putK3_ok, putK4_ok, retE_ev, retK_ok, retN_ev, exprS_ev, exprK_ok, passS_ev, breakS_ev, contS_ev, ifS_ev, ifK_t, ifK_f, blkS_nil, blkS_cons, blkK_n, blkK_r, blkK_b, blkK_c, finK_r, finK_n, stT_nm, stT_tp, stTs_nil, stTs_cons, stO_s, Ev.add_int, Ev.sub_int, mul_intE, div_int, mod_intE, lt_intE, gt_intE, le_intE, ge_intE, eq_intE, ne_intE, eq_strE, ne_strE, eq_blE, ne_blE, is_nonE, is_blE, isnot_nonE, idx_lst, idx_tup, idx_refI, idx_refS, idx_dctI, idx_dctS, setL_lst, setL_str, ix4_0, ix4_1, ix4_2, ix4_3, fin_f, List.map, List.replicate, List.length_cons, List.length_nil, List.nil_append, List.cons_append, List.getElem?_cons_zero, List.getElem?_cons_succ, List.set_cons_zero, List.set_cons_succ, if_true, if_false, decide_true, decide_false, Bool.not_true, Bool.not_false, ite_true, ite_false, Ev.bi_len, lenO_s, bi_int, bi_intb, bi_abs, bi_min, bi_max, bi_gcd, bi_str, tr_bl, tr_int, Nat.sub_self, Nat.zero_add, Nat.reduceAdd, Nat.reduceSub, atI_0, atI_1, atI_2, atI_3, atI_4, Int.reduceNeg, Ev.pow_int, and_self, Bool.false_eq_true, reduceCtorEq, Option.bind_some, Option.bind_none, id_eq, Int.le_refl, Int.lt_irrefl, Int.reduceEq, Int.reduceNe, Int.reduceLT, Int.reduceLE, Int.reducePow, Int.reduceToNat, Int.reduceAbs, Nat.reducePow, Nat.reduceLT, Nat.reduceLeDiff, Nat.reduceEqDiff, Nat.reduceMul, b_p_added, c1, c2, c3, r, show fr a = .tup [.int a.num, .int (a.den : Int)] from rfl, show fr b = .tup [.int b.num, .int (b.den : Int)] from rfl]
theorem less_eq (hR : Has T "ratio" 3 false b_p_ratio) (hT : Has T "less" 2 false b_p_less) (k : Nat) {a b : Rat} {m n : Nat} (L : List LO) (ha : Sz m a) (hb : Sz n b) (h : m + n < 8990) : evCall T (k + 2) "less" [fr a, fr b] L = .ok (fr (a - b)) L := by
  obtain ⟨c1, c2, c3, c4, c5⟩ := mulN ha hb (by omega)
  have := lg_mul (a.den : Int) b.den
  have := ha.b; have := hb.b
  have r := ratio_eq hR k (p := a.num * b.den - b.num * a.den) (q := a.den * b.den) L (Int.mul_ne_zero (den_ne a) (den_ne b)) (by omega)
  rw [sub_ints] at r
  rw [call_of hT]
  simp -implicitDefEqProofs only [varE_ev, cE_ev, argsE_nil, argsE_cons, aK1_ok, aK2_ok, tupE_ev, tupK_ok, lstE_ev, lstK_ok, dctE_ev, newL_t, newL_f, newD_t, newD_f, binE_ev, binK1_ok, binK2_ok, idxE_ev, idxK1_ok, idxK2_ok, cmpE_ev, cmpK1_ok, cmpK2_ok, optV_s, optB_s, testB_ev, testK_ok, truE_ev, truK_ok, truO_s, notT_ev, notK_ok, andT_ev, andK_t, andK_f, orT_ev, orK_t, orK_f, andE_ev, andV1_ok, andV2_t, andV2_f, orE_ev, orV1_ok, orV2_t, orV2_f, notE_ev, notV1_ok, notV2_s, negE_ev, negK_ok, ifE_ev, ifV_t, ifV_f, chainE_ev, chK1_ok, chK2_ok, chK3_t, chK3_f, chK4_ok, partE_ev, partK_ok, noE_ev, sliceE_ev, slK1_ok, slK2_ok, slK3_ok, callE_ev, callK_ok, biE_ev, biK_ok, appE_ev, apK2_ok, getE_ev, geK2_ok, get2E_ev, gfK2_ok, gfK3_ok, geO_ok, asgN_ev, asgK_ok, asgT_ev, asgTK_ok, asgO_s, putE_ev, putK1_ok, putK2_ok, putK3_ok, putK4_ok, retE_ev, retK_ok, retN_ev, exprS_ev, exprK_ok, passS_ev, breakS_ev, contS_ev, ifS_ev, ifK_t, ifK_f, blkS_nil, blkS_cons, blkK_n, blkK_r, blkK_b, blkK_c, finK_r, finK_n, stT_nm, stT_tp, stTs_nil, stTs_cons, stO_s, Ev.add_int, Ev.sub_int, mul_intE, div_int, mod_intE, lt_intE, gt_intE, le_intE, ge_intE, eq_intE, ne_intE, eq_strE, ne_strE, eq_blE, ne_blE, is_nonE, is_blE, isnot_nonE, idx_lst, idx_tup, idx_refI, idx_refS, idx_dctI, idx_dctS, setL_lst, setL_str, ix4_0, ix4_1, ix4_2, ix4_3, fin_f, List.map, List.replicate, List.length_cons, List.length_nil, List.nil_append, List.cons_append, List.getElem?_cons_zero, List.getElem?_cons_succ, List.set_cons_zero, List.set_cons_succ, if_true, if_false, decide_true, decide_false, Bool.not_true, Bool.not_false, ite_true, ite_false, Ev.bi_len, lenO_s, bi_int, bi_intb, bi_abs, bi_min, bi_max, bi_gcd, bi_str, tr_bl, tr_int, Nat.sub_self, Nat.zero_add, Nat.reduceAdd, Nat.reduceSub, atI_0, atI_1, atI_2, atI_3, atI_4, Int.reduceNeg, Ev.pow_int, and_self, Bool.false_eq_true, reduceCtorEq, Option.bind_some, Option.bind_none, id_eq, Int.le_refl, Int.lt_irrefl, Int.reduceEq, Int.reduceNe, Int.reduceLT, Int.reduceLE, Int.reducePow, Int.reduceToNat, Int.reduceAbs, Nat.reducePow, Nat.reduceLT, Nat.reduceLeDiff, Nat.reduceEqDiff, Nat.reduceMul, b_p_less, c1, c2, c3, r, show fr a = .tup [.int a.num, .int (a.den : Int)] from rfl, show fr b = .tup [.int b.num, .int (b.den : Int)] from rfl]
theorem times_eq (hR : Has T "ratio" 3 false b_p_ratio) (hT : Has T "times" 2 false b_p_times) (k : Nat) {a b : Rat} {m n : Nat} (L : List LO) (ha : Sz m a) (hb : Sz n b) (h : m + n < 8990) : evCall T (k + 2) "times" [fr a, fr b] L = .ok (fr (a * b)) L := by
  obtain ⟨c1, c2, c3, c4, c5⟩ := mulN ha hb (by omega)
  have := lg_mul (a.den : Int) b.den
  have := ha.b; have := hb.b
  have r := ratio_eq hR k (p := a.num * b.num) (q := a.den * b.den) L (Int.mul_ne_zero (den_ne a) (den_ne b)) (by omega)
  rw [mul_ints] at r
  rw [call_of hT]
  simp -implicitDefEqProofs only [varE_ev, cE_ev, argsE_nil, argsE_cons, aK1_ok, aK2_ok, tupE_ev, tupK_ok, lstE_ev, lstK_ok, dctE_ev, newL_t, newL_f, newD_t, newD_f, binE_ev, binK1_ok, binK2_ok, idxE_ev, idxK1_ok, idxK2_ok, cmpE_ev, cmpK1_ok, cmpK2_ok, optV_s, optB_s, testB_ev, testK_ok, truE_ev, truK_ok, truO_s, notT_ev, notK_ok, andT_ev, andK_t, andK_f, orT_ev, orK_t, orK_f, andE_ev, andV1_ok, andV2_t, andV2_f, orE_ev, orV1_ok, orV2_t, orV2_f, notE_ev, notV1_ok, notV2_s, negE_ev, negK_ok, ifE_ev, ifV_t, ifV_f, chainE_ev, chK1_ok, chK2_ok, chK3_t, chK3_f, chK4_ok, partE_ev, partK_ok, noE_ev, sliceE_ev, slK1_ok, slK2_ok, slK3_ok, callE_ev, callK_ok, biE_ev, biK_ok, appE_ev, apK2_ok, getE_ev, geK2_ok, get2E_ev, gfK2_ok, gfK3_ok, geO_ok, asgN_ev, asgK_ok, asgT_ev, asgTK_ok, asgO_s, putE_ev, putK1_ok, putK2_ok, putK3_ok, putK4_ok, retE_ev, retK_ok, retN_ev, exprS_ev, exprK_ok, passS_ev, breakS_ev, contS_ev, ifS_ev, ifK_t, ifK_f, blkS_nil, blkS_cons, blkK_n, blkK_r, blkK_b, blkK_c, finK_r, finK_n, stT_nm, stT_tp, stTs_nil, stTs_cons, stO_s, Ev.add_int, Ev.sub_int, mul_intE, div_int, mod_intE, lt_intE, gt_intE, le_intE, ge_intE, eq_intE, ne_intE, eq_strE, ne_strE, eq_blE, ne_blE, is_nonE, is_blE, isnot_nonE, idx_lst, idx_tup, idx_refI, idx_refS, idx_dctI, idx_dctS, setL_lst, setL_str, ix4_0, ix4_1, ix4_2, ix4_3, fin_f, List.map, List.replicate, List.length_cons, List.length_nil, List.nil_append, List.cons_append, List.getElem?_cons_zero, List.getElem?_cons_succ, List.set_cons_zero, List.set_cons_succ, if_true, if_false, decide_true, decide_false, Bool.not_true, Bool.not_false, ite_true, ite_false, Ev.bi_len, lenO_s, bi_int, bi_intb, bi_abs, bi_min, bi_max, bi_gcd, bi_str, tr_bl, tr_int, Nat.sub_self, Nat.zero_add, Nat.reduceAdd, Nat.reduceSub, atI_0, atI_1, atI_2, atI_3, atI_4, Int.reduceNeg, Ev.pow_int, and_self, Bool.false_eq_true, reduceCtorEq, Option.bind_some, Option.bind_none, id_eq, Int.le_refl, Int.lt_irrefl, Int.reduceEq, Int.reduceNe, Int.reduceLT, Int.reduceLE, Int.reducePow, Int.reduceToNat, Int.reduceAbs, Nat.reducePow, Nat.reduceLT, Nat.reduceLeDiff, Nat.reduceEqDiff, Nat.reduceMul, b_p_times, c3, c4, r, show fr a = .tup [.int a.num, .int (a.den : Int)] from rfl, show fr b = .tup [.int b.num, .int (b.den : Int)] from rfl]
theorem over_eq (hR : Has T "ratio" 3 false b_p_ratio) (hT : Has T "over" 2 false b_p_over) (k : Nat) {a b : Rat} {m n : Nat} (L : List LO) (ha : Sz m a) (hb : Sz n b) (h : m + n < 8990) (h0 : b ≠ 0) : evCall T (k + 2) "over" [fr a, fr b] L = .ok (fr (a / b)) L := by
  obtain ⟨c1, c2, c3, c4, c5⟩ := mulN ha hb (by omega)
  have := lg_mul (a.den : Int) b.num
  have := ha.b; have := hb.a
  have r := ratio_eq hR k (p := a.num * b.den) (q := a.den * b.num) L (Int.mul_ne_zero (den_ne a) (num_ne h0)) (by omega)
  rw [div_ints a b h0] at r
  rw [call_of hT]
  simp -implicitDefEqProofs only [varE_ev, cE_ev, argsE_nil, argsE_cons, aK1_ok, aK2_ok, tupE_ev, tupK_ok, lstE_ev, lstK_ok, dctE_ev, newL_t, newL_f, newD_t, newD_f, binE_ev, binK1_ok, binK2_ok, idxE_ev, idxK1_ok, idxK2_ok, cmpE_ev, cmpK1_ok, cmpK2_ok, optV_s, optB_s, testB_ev, testK_ok, truE_ev, truK_ok, truO_s, notT_ev, notK_ok, andT_ev, andK_t, andK_f, orT_ev, orK_t, orK_f, andE_ev, andV1_ok, andV2_t, andV2_f, orE_ev, orV1_ok, orV2_t, orV2_f, notE_ev, notV1_ok, notV2_s, negE_ev, negK_ok, ifE_ev, ifV_t, ifV_f, chainE_ev, chK1_ok, chK2_ok, chK3_t, chK3_f, chK4_ok, partE_ev, partK_ok, noE_ev, sliceE_ev, slK1_ok, slK2_ok, slK3_ok, callE_ev, callK_ok, biE_ev, biK_ok, appE_ev, apK2_ok, getE_ev, geK2_ok, get2E_ev, gfK2_ok, gfK3_ok, geO_ok, asgN_ev, asgK_ok, asgT_ev, asgTK_ok, asgO_s, putE_ev, putK1_ok, putK2_ok, putK3_ok, putK4_ok, retE_ev, retK_ok, retN_ev, exprS_ev, exprK_ok, passS_ev, breakS_ev, contS_ev, ifS_ev, ifK_t, ifK_f, blkS_nil, blkS_cons, blkK_n, blkK_r, blkK_b, blkK_c, finK_r, finK_n, stT_nm, stT_tp, stTs_nil, stTs_cons, stO_s, Ev.add_int, Ev.sub_int, mul_intE, div_int, mod_intE, lt_intE, gt_intE, le_intE, ge_intE, eq_intE, ne_intE, eq_strE, ne_strE, eq_blE, ne_blE, is_nonE, is_blE, isnot_nonE, idx_lst, idx_tup, idx_refI, idx_refS, idx_dctI, idx_dctS, setL_lst, setL_str, ix4_0, ix4_1, ix4_2, ix4_3, fin_f, List.map, List.replicate, List.length_cons, List.length_nil, List.nil_append, List.cons_append, List.getElem?_cons_zero, List.getElem?_cons_succ, List.set_cons_zero, List.set_cons_succ, if_true, if_false, decide_true, decide_false, Bool.not_true, Bool.not_false, ite_true, ite_false, Ev.bi_len, lenO_s, bi_int, bi_intb, bi_abs, bi_min, bi_max, bi_gcd, bi_str, tr_bl, tr_int, Nat.sub_self, Nat.zero_add, Nat.reduceAdd, Nat.reduceSub, atI_0, atI_1, atI_2, atI_3, atI_4, Int.reduceNeg, Ev.pow_int, and_self, Bool.false_eq_true, reduceCtorEq, Option.bind_some, Option.bind_none, id_eq, Int.le_refl, Int.lt_irrefl, Int.reduceEq, Int.reduceNe, Int.reduceLT, Int.reduceLE, Int.reducePow, Int.reduceToNat, Int.reduceAbs, Nat.reducePow, Nat.reduceLT, Nat.reduceLeDiff, Nat.reduceEqDiff, Nat.reduceMul, b_p_over, c1, c5, r, show fr a = .tup [.int a.num, .int (a.den : Int)] from rfl, show fr b = .tup [.int b.num, .int (b.den : Int)] from rfl]
theorem below_eq (hT : Has T "below" 2 false b_p_below) (k : Nat) {a b : Rat} {m n : Nat} (L : List LO) (ha : Sz m a) (hb : Sz n b) (h : m + n < 8990) : evCall T (k + 1) "below" [fr a, fr b] L = .ok (.bl (decide (a < b))) L := by
  obtain ⟨c1, c2, c3, c4, c5⟩ := mulN ha hb (by omega)
  rw [call_of hT]
  simp -implicitDefEqProofs only [varE_ev, cE_ev, argsE_nil, argsE_cons, aK1_ok, aK2_ok, tupE_ev, tupK_ok, lstE_ev, lstK_ok, dctE_ev, newL_t, newL_f, newD_t, newD_f, binE_ev, binK1_ok, binK2_ok, idxE_ev, idxK1_ok, idxK2_ok, cmpE_ev, cmpK1_ok, cmpK2_ok, optV_s, optB_s, testB_ev, testK_ok, truE_ev, truK_ok, truO_s, notT_ev, notK_ok, andT_ev, andK_t, andK_f, orT_ev, orK_t, orK_f, andE_ev, andV1_ok, andV2_t, andV2_f, orE_ev, orV1_ok, orV2_t, orV2_f, notE_ev, notV1_ok, notV2_s, negE_ev, negK_ok, ifE_ev, ifV_t, ifV_f, chainE_ev, chK1_ok, chK2_ok, chK3_t, chK3_f, chK4_ok, partE_ev, partK_ok, noE_ev, sliceE_ev, slK1_ok, slK2_ok, slK3_ok, callE_ev, callK_ok, biE_ev, biK_ok, appE_ev, apK2_ok, getE_ev, geK2_ok, get2E_ev, gfK2_ok, gfK3_ok, geO_ok, asgN_ev, asgK_ok, asgT_ev, asgTK_ok, asgO_s, putE_ev, putK1_ok, putK2_ok, putK3_ok, putK4_ok, retE_ev, retK_ok, retN_ev, exprS_ev, exprK_ok, passS_ev, breakS_ev, contS_ev, ifS_ev, ifK_t, ifK_f, blkS_nil, blkS_cons, blkK_n, blkK_r, blkK_b, blkK_c, finK_r, finK_n, stT_nm, stT_tp, stTs_nil, stTs_cons, stO_s, Ev.add_int, Ev.sub_int, mul_intE, div_int, mod_intE, lt_intE, gt_intE, le_intE, ge_intE, eq_intE, ne_intE, eq_strE, ne_strE, eq_blE, ne_blE, is_nonE, is_blE, isnot_nonE, idx_lst, idx_tup, idx_refI, idx_refS, idx_dctI, idx_dctS, setL_lst, setL_str, ix4_0, ix4_1, ix4_2, ix4_3, fin_f, List.map, List.replicate, List.length_cons, List.length_nil, List.nil_append, List.cons_append, List.getElem?_cons_zero, List.getElem?_cons_succ, List.set_cons_zero, List.set_cons_succ, if_true, if_false, decide_true, decide_false, Bool.not_true, Bool.not_false, ite_true, ite_false, Ev.bi_len, lenO_s, bi_int, bi_intb, bi_abs, bi_min, bi_max, bi_gcd, bi_str, tr_bl, tr_int, Nat.sub_self, Nat.zero_add, Nat.reduceAdd, Nat.reduceSub, atI_0, atI_1, atI_2, atI_3, atI_4, Int.reduceNeg, Ev.pow_int, and_self, Bool.false_eq_true, reduceCtorEq, Option.bind_some, Option.bind_none, id_eq, Int.le_refl, Int.lt_irrefl, Int.reduceEq, Int.reduceNe, Int.reduceLT, Int.reduceLE, Int.reducePow, Int.reduceToNat, Int.reduceAbs, Nat.reducePow, Nat.reduceLT, Nat.reduceLeDiff, Nat.reduceEqDiff, Nat.reduceMul, b_p_below, c1, c2, show fr a = .tup [.int a.num, .int (a.den : Int)] from rfl, show fr b = .tup [.int b.num, .int (b.den : Int)] from rfl]
  congr 3
  exact propext (Rat.lt_iff a b).symm
theorem num_pos {a : Rat} : 0 < a.num ↔ 0 < a := by
  have h1 := @Rat.num_nonneg a
  have h2 := @Rat.num_eq_zero a
  constructor
  · intro h
    have : 0 ≤ a := h1.mp (by omega)
    have : a ≠ 0 := fun e => by have := h2.mpr e; omega
    grind
  · intro h
    have : 0 ≤ a.num := h1.mpr (by grind)
    have : a.num ≠ 0 := fun e => by have := h2.mp e; grind
    omega
def sgn (a : Rat) : Int := if a = 0 then 0 else if 0 < a then 1 else -1
theorem sign_eq (hT : Has T "sign" 1 false b_p_sign) (k : Nat) {a : Rat} (L : List LO) : evCall T (k + 1) "sign" [fr a] L = .ok (.int (sgn a)) L := by
  rw [call_of hT]
  unfold sgn
  by_cases h : a = 0
  · have h1 : a.num = 0 := Rat.num_eq_zero.mpr h
    rw [if_pos h]
    simp -implicitDefEqProofs only [varE_ev, cE_ev, argsE_nil, argsE_cons, aK1_ok, aK2_ok, tupE_ev, tupK_ok, lstE_ev, lstK_ok, dctE_ev, newL_t, newL_f, newD_t, newD_f, binE_ev, binK1_ok, binK2_ok, idxE_ev, idxK1_ok, idxK2_ok, cmpE_ev, cmpK1_ok, cmpK2_ok, optV_s, optB_s, testB_ev, testK_ok, truE_ev, truK_ok, truO_s, notT_ev, notK_ok, andT_ev, andK_t, andK_f, orT_ev, orK_t, orK_f, andE_ev, andV1_ok, andV2_t, andV2_f, orE_ev, orV1_ok, orV2_t, orV2_f, notE_ev, notV1_ok, notV2_s, negE_ev, negK_ok, ifE_ev, ifV_t, ifV_f, chainE_ev, chK1_ok, chK2_ok, chK3_t, chK3_f, chK4_ok, partE_ev, partK_ok, noE_ev, sliceE_ev, slK1_ok, slK2_ok, slK3_ok, callE_ev, callK_ok, biE_ev, biK_ok, appE_ev, apK2_ok, getE_ev, geK2_ok, get2E_ev, gfK2_ok, gfK3_ok, geO_ok, asgN_ev, asgK_ok, asgT_ev, asgTK_ok, asgO_s, putE_ev, putK1_ok, putK2_ok, putK3_ok, putK4_ok, retE_ev, retK_ok, retN_ev, exprS_ev, exprK_ok, passS_ev, breakS_ev, contS_ev, ifS_ev, ifK_t, ifK_f, blkS_nil, blkS_cons, blkK_n, blkK_r, blkK_b, blkK_c, finK_r, finK_n, stT_nm, stT_tp, stTs_nil, stTs_cons, stO_s, Ev.add_int, Ev.sub_int, mul_intE, div_int, mod_intE, lt_intE, gt_intE, le_intE, ge_intE, eq_intE, ne_intE, eq_strE, ne_strE, eq_blE, ne_blE, is_nonE, is_blE, isnot_nonE, idx_lst, idx_tup, idx_refI, idx_refS, idx_dctI, idx_dctS, setL_lst, setL_str, ix4_0, ix4_1, ix4_2, ix4_3, fin_f, List.map, List.replicate, List.length_cons, List.length_nil, List.nil_append, List.cons_append, List.getElem?_cons_zero, List.getElem?_cons_succ, List.set_cons_zero, List.set_cons_succ, if_true, if_false, decide_true, decide_false, Bool.not_true, Bool.not_false, ite_true, ite_false, Ev.bi_len, lenO_s, bi_int, bi_intb, bi_abs, bi_min, bi_max, bi_gcd, bi_str, tr_bl, tr_int, Nat.sub_self, Nat.zero_add, Nat.reduceAdd, Nat.reduceSub, atI_0, atI_1, atI_2, atI_3, atI_4, Int.reduceNeg, Ev.pow_int, and_self, Bool.false_eq_true, reduceCtorEq, Option.bind_some, Option.bind_none, id_eq, Int.le_refl, Int.lt_irrefl, Int.reduceEq, Int.reduceNe, Int.reduceLT, Int.reduceLE, Int.reducePow, Int.reduceToNat, Int.reduceAbs, Nat.reducePow, Nat.reduceLT, Nat.reduceLeDiff, Nat.reduceEqDiff, Nat.reduceMul, b_p_sign, h1, show fr a = .tup [.int a.num, .int (a.den : Int)] from rfl]
  · have h1 : ¬ a.num = 0 := num_ne h
    rw [if_neg h]
    by_cases hp : 0 < a
    · have h2 : 0 < a.num := num_pos.mpr hp
      rw [if_pos hp]
      simp -implicitDefEqProofs only [varE_ev, cE_ev, argsE_nil, argsE_cons, aK1_ok, aK2_ok, tupE_ev, tupK_ok, lstE_ev, lstK_ok, dctE_ev, newL_t, newL_f, newD_t, newD_f, binE_ev, binK1_ok, binK2_ok, idxE_ev, idxK1_ok, idxK2_ok, cmpE_ev, cmpK1_ok, cmpK2_ok, optV_s, optB_s, testB_ev, testK_ok, truE_ev, truK_ok, truO_s, notT_ev, notK_ok, andT_ev, andK_t, andK_f, orT_ev, orK_t, orK_f, andE_ev, andV1_ok, andV2_t, andV2_f, orE_ev, orV1_ok, orV2_t, orV2_f, notE_ev, notV1_ok, notV2_s, negE_ev, negK_ok, ifE_ev, ifV_t, ifV_f, chainE_ev, chK1_ok, chK2_ok, chK3_t, chK3_f, chK4_ok, partE_ev, partK_ok, noE_ev, sliceE_ev, slK1_ok, slK2_ok, slK3_ok, callE_ev, callK_ok, biE_ev, biK_ok, appE_ev, apK2_ok, getE_ev, geK2_ok, get2E_ev, gfK2_ok, gfK3_ok, geO_ok, asgN_ev, asgK_ok, asgT_ev, asgTK_ok, asgO_s, putE_ev, putK1_ok, putK2_ok, putK3_ok, putK4_ok, retE_ev, retK_ok, retN_ev, exprS_ev, exprK_ok, passS_ev, breakS_ev, contS_ev, ifS_ev, ifK_t, ifK_f, blkS_nil, blkS_cons, blkK_n, blkK_r, blkK_b, blkK_c, finK_r, finK_n, stT_nm, stT_tp, stTs_nil, stTs_cons, stO_s, Ev.add_int, Ev.sub_int, mul_intE, div_int, mod_intE, lt_intE, gt_intE, le_intE, ge_intE, eq_intE, ne_intE, eq_strE, ne_strE, eq_blE, ne_blE, is_nonE, is_blE, isnot_nonE, idx_lst, idx_tup, idx_refI, idx_refS, idx_dctI, idx_dctS, setL_lst, setL_str, ix4_0, ix4_1, ix4_2, ix4_3, fin_f, List.map, List.replicate, List.length_cons, List.length_nil, List.nil_append, List.cons_append, List.getElem?_cons_zero, List.getElem?_cons_succ, List.set_cons_zero, List.set_cons_succ, if_true, if_false, decide_true, decide_false, Bool.not_true, Bool.not_false, ite_true, ite_false, Ev.bi_len, lenO_s, bi_int, bi_intb, bi_abs, bi_min, bi_max, bi_gcd, bi_str, tr_bl, tr_int, Nat.sub_self, Nat.zero_add, Nat.reduceAdd, Nat.reduceSub, atI_0, atI_1, atI_2, atI_3, atI_4, Int.reduceNeg, Ev.pow_int, and_self, Bool.false_eq_true, reduceCtorEq, Option.bind_some, Option.bind_none, id_eq, Int.le_refl, Int.lt_irrefl, Int.reduceEq, Int.reduceNe, Int.reduceLT, Int.reduceLE, Int.reducePow, Int.reduceToNat, Int.reduceAbs, Nat.reducePow, Nat.reduceLT, Nat.reduceLeDiff, Nat.reduceEqDiff, Nat.reduceMul, b_p_sign, h1, h2, show fr a = .tup [.int a.num, .int (a.den : Int)] from rfl]
    · have h2 : ¬ 0 < a.num := fun z => hp (num_pos.mp z)
      rw [if_neg hp]
      simp -implicitDefEqProofs only [varE_ev, cE_ev, argsE_nil, argsE_cons, aK1_ok, aK2_ok, tupE_ev, tupK_ok, lstE_ev, lstK_ok, dctE_ev, newL_t, newL_f, newD_t, newD_f, binE_ev, binK1_ok, binK2_ok, idxE_ev, idxK1_ok, idxK2_ok, cmpE_ev, cmpK1_ok, cmpK2_ok, optV_s, optB_s, testB_ev, testK_ok, truE_ev, truK_ok, truO_s, notT_ev, notK_ok, andT_ev, andK_t, andK_f, orT_ev, orK_t, orK_f, andE_ev, andV1_ok, andV2_t, andV2_f, orE_ev, orV1_ok, orV2_t, orV2_f, notE_ev, notV1_ok, notV2_s, negE_ev, negK_ok, ifE_ev, ifV_t, ifV_f, chainE_ev, chK1_ok, chK2_ok, chK3_t, chK3_f, chK4_ok, partE_ev, partK_ok, noE_ev, sliceE_ev, slK1_ok, slK2_ok, slK3_ok, callE_ev, callK_ok, biE_ev, biK_ok, appE_ev, apK2_ok, getE_ev, geK2_ok, get2E_ev, gfK2_ok, gfK3_ok, geO_ok, asgN_ev, asgK_ok, asgT_ev, asgTK_ok, asgO_s, putE_ev, putK1_ok, putK2_ok, putK3_ok, putK4_ok, retE_ev, retK_ok, retN_ev, exprS_ev, exprK_ok, passS_ev, breakS_ev, contS_ev, ifS_ev, ifK_t, ifK_f, blkS_nil, blkS_cons, blkK_n, blkK_r, blkK_b, blkK_c, finK_r, finK_n, stT_nm, stT_tp, stTs_nil, stTs_cons, stO_s, Ev.add_int, Ev.sub_int, mul_intE, div_int, mod_intE, lt_intE, gt_intE, le_intE, ge_intE, eq_intE, ne_intE, eq_strE, ne_strE, eq_blE, ne_blE, is_nonE, is_blE, isnot_nonE, idx_lst, idx_tup, idx_refI, idx_refS, idx_dctI, idx_dctS, setL_lst, setL_str, ix4_0, ix4_1, ix4_2, ix4_3, fin_f, List.map, List.replicate, List.length_cons, List.length_nil, List.nil_append, List.cons_append, List.getElem?_cons_zero, List.getElem?_cons_succ, List.set_cons_zero, List.set_cons_succ, if_true, if_false, decide_true, decide_false, Bool.not_true, Bool.not_false, ite_true, ite_false, Ev.bi_len, lenO_s, bi_int, bi_intb, bi_abs, bi_min, bi_max, bi_gcd, bi_str, tr_bl, tr_int, Nat.sub_self, Nat.zero_add, Nat.reduceAdd, Nat.reduceSub, atI_0, atI_1, atI_2, atI_3, atI_4, Int.reduceNeg, Ev.pow_int, and_self, Bool.false_eq_true, reduceCtorEq, Option.bind_some, Option.bind_none, id_eq, Int.le_refl, Int.lt_irrefl, Int.reduceEq, Int.reduceNe, Int.reduceLT, Int.reduceLE, Int.reducePow, Int.reduceToNat, Int.reduceAbs, Nat.reducePow, Nat.reduceLT, Nat.reduceLeDiff, Nat.reduceEqDiff, Nat.reduceMul, b_p_sign, h1, h2, show fr a = .tup [.int a.num, .int (a.den : Int)] from rfl]
/-! ### the law's own -/
def est : Nat → Nat → Nat
  | a, 0 => 0
  | a, b + 1 => est (b + 1) (a % (b + 1)) + 1
termination_by a b => b
decreasing_by exact Nat.mod_lt _ (Nat.succ_pos _)
theorem est_succ (x y : Nat) : est x (y + 1) = est (y + 1) (x % (y + 1)) + 1 := by rw [est]
theorem est_le : ∀ (n a b : Nat), b < 2 ^ n → est a b ≤ 2 * n + 1
  | 0, a, b, h => by
    have : b = 0 := by simpa using h
    subst this; unfold est; omega
  | n + 1, a, b, h => by
    cases b with
    | zero => unfold est; omega
    | succ b =>
      unfold est
      cases hr : a % (b + 1) with
      | zero => unfold est; omega
      | succ r =>
        unfold est
        have hlt : r + 1 < b + 1 := by rw [← hr]; exact Nat.mod_lt _ (Nat.succ_pos _)
        have hm : (b + 1) % (r + 1) < 2 ^ n := by
          have h1 : (b + 1) % (r + 1) < r + 1 := Nat.mod_lt (b + 1) (Nat.succ_pos r)
          have h2 : (b + 1) % (r + 1) ≤ b + 1 - (r + 1) := by
            rw [Nat.mod_eq_sub_mod (by omega)]
            exact Nat.mod_le _ _
          rw [Nat.pow_succ] at h
          omega
        have := est_le n (r + 1) ((b + 1) % (r + 1)) hm
        omega
theorem gcd_eq (hT : Has T "_law_gcd" 3 false b_law_gcd) (k : Nat) {a b : Int} (L : List LO) (ha : 0 ≤ a) (hb : 0 ≤ b) (h9 : lg b < 9000) : evCall T (k + 1) "_law_gcd" [.int a, .int b] L = .ok (.int ((Nat.gcd a.natAbs b.natAbs : Nat) : Int)) L := by
  obtain ⟨a, rfl⟩ := Int.eq_ofNat_of_zero_le ha
  obtain ⟨b, rfl⟩ := Int.eq_ofNat_of_zero_le hb
  have e9 : est a b < 20000 := by
    have := est_le 9000 a b (by have := lg_lt h9; simpa using this)
    omega
  have loop : ∃ y z, f_law_gcd_1 (evCall T k) [some (.int a), some (.int b), none] L = .ok (.next, [some (.int ((Nat.gcd a b : Nat) : Int)), y, z]) L := by
    unfold f_law_gcd_1
    refine for_range (P := fun r => ∃ y z, r = .ok (.next, [some (.int ((Nat.gcd a b : Nat) : Int)), y, z]) L) (j := 20000) (fun i s L' => L' = L ∧ ∃ (x y : Nat) (z : Option LV), s = [some (.int x), some (.int y), z] ∧ Nat.gcd x y = Nat.gcd a b ∧ i + est x y ≤ est a b) (show cE (.int 20000) (evCall T k) _ L = .ok (.int 20000) L from rfl) (by decide) ⟨rfl, a, b, none, rfl, rfl, by omega⟩ (fun i s L' hi h => ?_) (fun s L' h => ?_)
    · obtain ⟨rfl, x, y, z, rfl, h1, h2⟩ := h
      refine ⟨_, stT_nm, ?_⟩
      cases y with
      | zero =>
        have e : l_law_gcd_1 (evCall T k) ([some (.int (x : Int)), some (.int ((0 : Nat) : Int)), z].set 2 (some (.int (i : Int)))) L' = .ok (.brk, [some (.int (x : Int)), some (.int ((0 : Nat) : Int)), some (.int (i : Int))]) L' := by
          simp -implicitDefEqProofs only [varE_ev, cE_ev, argsE_nil, argsE_cons, aK1_ok, aK2_ok, tupE_ev, tupK_ok, lstE_ev, lstK_ok, dctE_ev, newL_t, newL_f, newD_t, newD_f, binE_ev, binK1_ok, binK2_ok, idxE_ev, idxK1_ok, idxK2_ok, cmpE_ev, cmpK1_ok, cmpK2_ok, optV_s, optB_s, testB_ev, testK_ok, truE_ev, truK_ok, truO_s, notT_ev, notK_ok, andT_ev, andK_t, andK_f, orT_ev, orK_t, orK_f, andE_ev, andV1_ok, andV2_t, andV2_f, orE_ev, orV1_ok, orV2_t, orV2_f, notE_ev, notV1_ok, notV2_s, negE_ev, negK_ok, ifE_ev, ifV_t, ifV_f, chainE_ev, chK1_ok, chK2_ok, chK3_t, chK3_f, chK4_ok, partE_ev, partK_ok, noE_ev, sliceE_ev, slK1_ok, slK2_ok, slK3_ok, callE_ev, callK_ok, biE_ev, biK_ok, appE_ev, apK2_ok, getE_ev, geK2_ok, get2E_ev, gfK2_ok, gfK3_ok, geO_ok, asgN_ev, asgK_ok, asgT_ev, asgTK_ok, asgO_s, putE_ev, putK1_ok, putK2_ok, putK3_ok, putK4_ok, retE_ev, retK_ok, retN_ev, exprS_ev, exprK_ok, passS_ev, breakS_ev, contS_ev, ifS_ev, ifK_t, ifK_f, blkS_nil, blkS_cons, blkK_n, blkK_r, blkK_b, blkK_c, finK_r, finK_n, stT_nm, stT_tp, stTs_nil, stTs_cons, stO_s, Ev.add_int, Ev.sub_int, mul_intE, div_int, mod_intE, lt_intE, gt_intE, le_intE, ge_intE, eq_intE, ne_intE, eq_strE, ne_strE, eq_blE, ne_blE, is_nonE, is_blE, isnot_nonE, idx_lst, idx_tup, idx_refI, idx_refS, idx_dctI, idx_dctS, setL_lst, setL_str, ix4_0, ix4_1, ix4_2, ix4_3, fin_f, List.map, List.replicate, List.length_cons, List.length_nil, List.nil_append, List.cons_append, List.getElem?_cons_zero, List.getElem?_cons_succ, List.set_cons_zero, List.set_cons_succ, if_true, if_false, decide_true, decide_false, Bool.not_true, Bool.not_false, ite_true, ite_false, Ev.bi_len, lenO_s, bi_int, bi_intb, bi_abs, bi_min, bi_max, bi_gcd, bi_str, tr_bl, tr_int, Nat.sub_self, Nat.zero_add, Nat.reduceAdd, Nat.reduceSub, atI_0, atI_1, atI_2, atI_3, atI_4, Int.reduceNeg, Ev.pow_int, and_self, Bool.false_eq_true, reduceCtorEq, Option.bind_some, Option.bind_none, id_eq, Int.le_refl, Int.lt_irrefl, Int.reduceEq, Int.reduceNe, Int.reduceLT, Int.reduceLE, Int.reducePow, Int.reduceToNat, Int.reduceAbs, Nat.reducePow, Nat.reduceLT, Nat.reduceLeDiff, Nat.reduceEqDiff, Nat.reduceMul, l_law_gcd_1, Int.ofNat_zero, Int.cast_ofNat_Int]
        rw [e]
        rw [Nat.gcd_zero_right] at h1
        rw [← h1]
        exact .brk ⟨_, _, rfl⟩
      | succ y =>
        have n0 : ¬ (((y + 1 : Nat) : Int) = 0) := by omega
        have p0 : 0 < ((y + 1 : Nat) : Int) := by omega
        have e : l_law_gcd_1 (evCall T k) ([some (.int (x : Int)), some (.int ((y + 1 : Nat) : Int)), z].set 2 (some (.int (i : Int)))) L' = .ok (.next, [some (.int ((y + 1 : Nat) : Int)), some (.int ((x % (y + 1) : Nat) : Int)), some (.int (i : Int))]) L' := by
          simp -implicitDefEqProofs only [varE_ev, cE_ev, argsE_nil, argsE_cons, aK1_ok, aK2_ok, tupE_ev, tupK_ok, lstE_ev, lstK_ok, dctE_ev, newL_t, newL_f, newD_t, newD_f, binE_ev, binK1_ok, binK2_ok, idxE_ev, idxK1_ok, idxK2_ok, cmpE_ev, cmpK1_ok, cmpK2_ok, optV_s, optB_s, testB_ev, testK_ok, truE_ev, truK_ok, truO_s, notT_ev, notK_ok, andT_ev, andK_t, andK_f, orT_ev, orK_t, orK_f, andE_ev, andV1_ok, andV2_t, andV2_f, orE_ev, orV1_ok, orV2_t, orV2_f, notE_ev, notV1_ok, notV2_s, negE_ev, negK_ok, ifE_ev, ifV_t, ifV_f, chainE_ev, chK1_ok, chK2_ok, chK3_t, chK3_f, chK4_ok, partE_ev, partK_ok, noE_ev, sliceE_ev, slK1_ok, slK2_ok, slK3_ok, callE_ev, callK_ok, biE_ev, biK_ok, appE_ev, apK2_ok, getE_ev, geK2_ok, get2E_ev, gfK2_ok, gfK3_ok, geO_ok, asgN_ev, asgK_ok, asgT_ev, asgTK_ok, asgO_s, putE_ev, putK1_ok, putK2_ok, putK3_ok, putK4_ok, retE_ev, retK_ok, retN_ev, exprS_ev, exprK_ok, passS_ev, breakS_ev, contS_ev, ifS_ev, ifK_t, ifK_f, blkS_nil, blkS_cons, blkK_n, blkK_r, blkK_b, blkK_c, finK_r, finK_n, stT_nm, stT_tp, stTs_nil, stTs_cons, stO_s, Ev.add_int, Ev.sub_int, mul_intE, div_int, mod_intE, lt_intE, gt_intE, le_intE, ge_intE, eq_intE, ne_intE, eq_strE, ne_strE, eq_blE, ne_blE, is_nonE, is_blE, isnot_nonE, idx_lst, idx_tup, idx_refI, idx_refS, idx_dctI, idx_dctS, setL_lst, setL_str, ix4_0, ix4_1, ix4_2, ix4_3, fin_f, List.map, List.replicate, List.length_cons, List.length_nil, List.nil_append, List.cons_append, List.getElem?_cons_zero, List.getElem?_cons_succ, List.set_cons_zero, List.set_cons_succ, if_true, if_false, decide_true, decide_false, Bool.not_true, Bool.not_false, ite_true, ite_false, Ev.bi_len, lenO_s, bi_int, bi_intb, bi_abs, bi_min, bi_max, bi_gcd, bi_str, tr_bl, tr_int, Nat.sub_self, Nat.zero_add, Nat.reduceAdd, Nat.reduceSub, atI_0, atI_1, atI_2, atI_3, atI_4, Int.reduceNeg, Ev.pow_int, and_self, Bool.false_eq_true, reduceCtorEq, Option.bind_some, Option.bind_none, id_eq, Int.le_refl, Int.lt_irrefl, Int.reduceEq, Int.reduceNe, Int.reduceLT, Int.reduceLE, Int.reducePow, Int.reduceToNat, Int.reduceAbs, Nat.reducePow, Nat.reduceLT, Nat.reduceLeDiff, Nat.reduceEqDiff, Nat.reduceMul, l_law_gcd_1, n0, p0]
          rfl
        rw [e]
        refine .next ⟨rfl, y + 1, x % (y + 1), _, rfl, ?_, ?_⟩
        · rw [← h1, Nat.gcd_comm x, Nat.gcd_rec (y + 1) x, Nat.gcd_comm]
        · rw [est_succ] at h2; omega
    · obtain ⟨rfl, x, y, z, rfl, h1, h2⟩ := h
      exfalso
      have : (20000 : Int).toNat = 20000 := rfl
      omega
  obtain ⟨y, z, e⟩ := loop
  rw [call_of hT]
  simp -implicitDefEqProofs only [varE_ev, cE_ev, argsE_nil, argsE_cons, aK1_ok, aK2_ok, tupE_ev, tupK_ok, lstE_ev, lstK_ok, dctE_ev, newL_t, newL_f, newD_t, newD_f, binE_ev, binK1_ok, binK2_ok, idxE_ev, idxK1_ok, idxK2_ok, cmpE_ev, cmpK1_ok, cmpK2_ok, optV_s, optB_s, testB_ev, testK_ok, truE_ev, truK_ok, truO_s, notT_ev, notK_ok, andT_ev, andK_t, andK_f, orT_ev, orK_t, orK_f, andE_ev, andV1_ok, andV2_t, andV2_f, orE_ev, orV1_ok, orV2_t, orV2_f, notE_ev, notV1_ok, notV2_s, negE_ev, negK_ok, ifE_ev, ifV_t, ifV_f, chainE_ev, chK1_ok, chK2_ok, chK3_t, chK3_f, chK4_ok, partE_ev, partK_ok, noE_ev, sliceE_ev, slK1_ok, slK2_ok, slK3_ok, callE_ev, callK_ok, biE_ev, biK_ok, appE_ev, apK2_ok, getE_ev, geK2_ok, get2E_ev, gfK2_ok, gfK3_ok, geO_ok, asgN_ev, asgK_ok, asgT_ev, asgTK_ok, asgO_s, putE_ev, putK1_ok, putK2_ok, putK3_ok, putK4_ok, retE_ev, retK_ok, retN_ev, exprS_ev, exprK_ok, passS_ev, breakS_ev, contS_ev, ifS_ev, ifK_t, ifK_f, blkS_nil, blkS_cons, blkK_n, blkK_r, blkK_b, blkK_c, finK_r, finK_n, stT_nm, stT_tp, stTs_nil, stTs_cons, stO_s, Ev.add_int, Ev.sub_int, mul_intE, div_int, mod_intE, lt_intE, gt_intE, le_intE, ge_intE, eq_intE, ne_intE, eq_strE, ne_strE, eq_blE, ne_blE, is_nonE, is_blE, isnot_nonE, idx_lst, idx_tup, idx_refI, idx_refS, idx_dctI, idx_dctS, setL_lst, setL_str, ix4_0, ix4_1, ix4_2, ix4_3, fin_f, List.map, List.replicate, List.length_cons, List.length_nil, List.nil_append, List.cons_append, List.getElem?_cons_zero, List.getElem?_cons_succ, List.set_cons_zero, List.set_cons_succ, if_true, if_false, decide_true, decide_false, Bool.not_true, Bool.not_false, ite_true, ite_false, Ev.bi_len, lenO_s, bi_int, bi_intb, bi_abs, bi_min, bi_max, bi_gcd, bi_str, tr_bl, tr_int, Nat.sub_self, Nat.zero_add, Nat.reduceAdd, Nat.reduceSub, atI_0, atI_1, atI_2, atI_3, atI_4, Int.reduceNeg, Ev.pow_int, and_self, Bool.false_eq_true, reduceCtorEq, Option.bind_some, Option.bind_none, id_eq, Int.le_refl, Int.lt_irrefl, Int.reduceEq, Int.reduceNe, Int.reduceLT, Int.reduceLE, Int.reducePow, Int.reduceToNat, Int.reduceAbs, Nat.reducePow, Nat.reduceLT, Nat.reduceLeDiff, Nat.reduceEqDiff, Nat.reduceMul, b_law_gcd, e, Int.natAbs_natCast]
theorem lratio_eq (hG : Has T "_law_gcd" 3 false b_law_gcd) (hT : Has T "_law_ratio" 3 false b_law_ratio) (k : Nat) {p q : Int} (L : List LO) (hq : q ≠ 0) (h9 : lg q < 9000) : evCall T (k + 2) "_law_ratio" [.int p, .int q] L = .ok (fr ((p : Rat) / (q : Rat))) L := by
  have hg := lg_gcd (p := p) hq
  obtain ⟨g, p', q', eg, g0, ep, eq, en, ed⟩ := rat_parts p q hq
  rw [← eg] at hg
  have gz : g ≠ 0 := by omega
  have hd : divOk g := divOk_of gz (by omega)
  unfold fr
  rw [en, ed, call_of hT]
  by_cases h : q < 0
  · have f1 : Int.fdiv (-p) g = -p' := by
      rw [ep, ← Int.mul_neg]
      exact Int.mul_fdiv_cancel_left _ gz
    have f2 : Int.fdiv (-q) g = -q' := by
      conv => lhs; rw [eq, ← Int.mul_neg]
      exact Int.mul_fdiv_cancel_left _ gz
    have e := gcd_eq hG k (a := if -p < 0 then - -p else -p) (b := -q) L (by split <;> omega) (by omega) (by rw [lg_neg]; exact h9)
    have eab : (if -p < 0 then - -p else -p).natAbs = p.natAbs := by split <;> omega
    rw [eab, Int.natAbs_neg, ← eg] at e
    rw [if_pos h, if_pos h]
    simp -implicitDefEqProofs only [varE_ev, cE_ev, argsE_nil, argsE_cons, aK1_ok, aK2_ok, tupE_ev, tupK_ok, lstE_ev, lstK_ok, dctE_ev, newL_t, newL_f, newD_t, newD_f, binE_ev, binK1_ok, binK2_ok, idxE_ev, idxK1_ok, idxK2_ok, cmpE_ev, cmpK1_ok, cmpK2_ok, optV_s, optB_s, testB_ev, testK_ok, truE_ev, truK_ok, truO_s, notT_ev, notK_ok, andT_ev, andK_t, andK_f, orT_ev, orK_t, orK_f, andE_ev, andV1_ok, andV2_t, andV2_f, orE_ev, orV1_ok, orV2_t, orV2_f, notE_ev, notV1_ok, notV2_s, negE_ev, negK_ok, ifE_ev, ifV_t, ifV_f, chainE_ev, chK1_ok, chK2_ok, chK3_t, chK3_f, chK4_ok, partE_ev, partK_ok, noE_ev, sliceE_ev, slK1_ok, slK2_ok, slK3_ok, callE_ev, callK_ok, biE_ev, biK_ok, appE_ev, apK2_ok, getE_ev, geK2_ok, get2E_ev, gfK2_ok, gfK3_ok, geO_ok, asgN_ev, asgK_ok, asgT_ev, asgTK_ok, asgO_s, putE_ev, putK1_ok, putK2_ok, putK3_ok, putK4_ok, retE_ev, retK_ok, retN_ev, exprS_ev, exprK_ok, passS_ev, breakS_ev, contS_ev, ifS_ev, ifK_t, ifK_f, blkS_nil, blkS_cons, blkK_n, blkK_r, blkK_b, blkK_c, finK_r, finK_n, stT_nm, stT_tp, stTs_nil, stTs_cons, stO_s, Ev.add_int, Ev.sub_int, mul_intE, div_int, mod_intE, lt_intE, gt_intE, le_intE, ge_intE, eq_intE, ne_intE, eq_strE, ne_strE, eq_blE, ne_blE, is_nonE, is_blE, isnot_nonE, idx_lst, idx_tup, idx_refI, idx_refS, idx_dctI, idx_dctS, setL_lst, setL_str, ix4_0, ix4_1, ix4_2, ix4_3, fin_f, List.map, List.replicate, List.length_cons, List.length_nil, List.nil_append, List.cons_append, List.getElem?_cons_zero, List.getElem?_cons_succ, List.set_cons_zero, List.set_cons_succ, if_true, if_false, decide_true, decide_false, Bool.not_true, Bool.not_false, ite_true, ite_false, Ev.bi_len, lenO_s, bi_int, bi_intb, bi_abs, bi_min, bi_max, bi_gcd, bi_str, tr_bl, tr_int, Nat.sub_self, Nat.zero_add, Nat.reduceAdd, Nat.reduceSub, atI_0, atI_1, atI_2, atI_3, atI_4, Int.reduceNeg, Ev.pow_int, and_self, Bool.false_eq_true, reduceCtorEq, Option.bind_some, Option.bind_none, id_eq, Int.le_refl, Int.lt_irrefl, Int.reduceEq, Int.reduceNe, Int.reduceLT, Int.reduceLE, Int.reducePow, Int.reduceToNat, Int.reduceAbs, Nat.reducePow, Nat.reduceLT, Nat.reduceLeDiff, Nat.reduceEqDiff, Nat.reduceMul, b_law_ratio, h, e, hd, f1, f2]
  · have f1 : Int.fdiv p g = p' := by rw [ep]; exact Int.mul_fdiv_cancel_left _ gz
    have f2 : Int.fdiv q g = q' := by
      conv => lhs; rw [eq]
      exact Int.mul_fdiv_cancel_left _ gz
    have e := gcd_eq hG k (a := if p < 0 then -p else p) (b := q) L (by split <;> omega) (by omega) h9
    have eab : (if p < 0 then -p else p).natAbs = p.natAbs := by split <;> omega
    rw [eab, ← eg] at e
    rw [if_neg h, if_neg h]
    simp -implicitDefEqProofs only [varE_ev, cE_ev, argsE_nil, argsE_cons, aK1_ok, aK2_ok, tupE_ev, tupK_ok, lstE_ev, lstK_ok, dctE_ev, newL_t, newL_f, newD_t, newD_f, binE_ev, binK1_ok, binK2_ok, idxE_ev, idxK1_ok, idxK2_ok, cmpE_ev, cmpK1_ok, cmpK2_ok, optV_s, optB_s, testB_ev, testK_ok, truE_ev, truK_ok, truO_s, notT_ev, notK_ok, andT_ev, andK_t, andK_f, orT_ev, orK_t, orK_f, andE_ev, andV1_ok, andV2_t, andV2_f, orE_ev, orV1_ok, orV2_t, orV2_f, notE_ev, notV1_ok, notV2_s, negE_ev, negK_ok, ifE_ev, ifV_t, ifV_f, chainE_ev, chK1_ok, chK2_ok, chK3_t, chK3_f, chK4_ok, partE_ev, partK_ok, noE_ev, sliceE_ev, slK1_ok, slK2_ok, slK3_ok, callE_ev, callK_ok, biE_ev, biK_ok, appE_ev, apK2_ok, getE_ev, geK2_ok, get2E_ev, gfK2_ok, gfK3_ok, geO_ok, asgN_ev, asgK_ok, asgT_ev, asgTK_ok, asgO_s, putE_ev, putK1_ok, putK2_ok, putK3_ok, putK4_ok, retE_ev, retK_ok, retN_ev, exprS_ev, exprK_ok, passS_ev, breakS_ev, contS_ev, ifS_ev, ifK_t, ifK_f, blkS_nil, blkS_cons, blkK_n, blkK_r, blkK_b, blkK_c, finK_r, finK_n, stT_nm, stT_tp, stTs_nil, stTs_cons, stO_s, Ev.add_int, Ev.sub_int, mul_intE, div_int, mod_intE, lt_intE, gt_intE, le_intE, ge_intE, eq_intE, ne_intE, eq_strE, ne_strE, eq_blE, ne_blE, is_nonE, is_blE, isnot_nonE, idx_lst, idx_tup, idx_refI, idx_refS, idx_dctI, idx_dctS, setL_lst, setL_str, ix4_0, ix4_1, ix4_2, ix4_3, fin_f, List.map, List.replicate, List.length_cons, List.length_nil, List.nil_append, List.cons_append, List.getElem?_cons_zero, List.getElem?_cons_succ, List.set_cons_zero, List.set_cons_succ, if_true, if_false, decide_true, decide_false, Bool.not_true, Bool.not_false, ite_true, ite_false, Ev.bi_len, lenO_s, bi_int, bi_intb, bi_abs, bi_min, bi_max, bi_gcd, bi_str, tr_bl, tr_int, Nat.sub_self, Nat.zero_add, Nat.reduceAdd, Nat.reduceSub, atI_0, atI_1, atI_2, atI_3, atI_4, Int.reduceNeg, Ev.pow_int, and_self, Bool.false_eq_true, reduceCtorEq, Option.bind_some, Option.bind_none, id_eq, Int.le_refl, Int.lt_irrefl, Int.reduceEq, Int.reduceNe, Int.reduceLT, Int.reduceLE, Int.reducePow, Int.reduceToNat, Int.reduceAbs, Nat.reducePow, Nat.reduceLT, Nat.reduceLeDiff, Nat.reduceEqDiff, Nat.reduceMul, b_law_ratio, h, e, hd, f1, f2]
theorem ladd_eq (hG : Has T "_law_gcd" 3 false b_law_gcd) (hR : Has T "_law_ratio" 3 false b_law_ratio) (hT : Has T "_law_add" 2 false b_law_add) (k : Nat) {a b : Rat} {m n : Nat} (L : List LO) (ha : Sz m a) (hb : Sz n b) (h : m + n < 8990) : evCall T (k + 3) "_law_add" [fr a, fr b] L = .ok (fr (a + b)) L := by
  obtain ⟨c1, c2, c3, c4, c5⟩ := mulN ha hb (by omega)
  have := lg_mul (a.den : Int) b.den
  have := ha.b; have := hb.b
  have r := lratio_eq hG hR k (p := a.num * b.den + b.num * a.den) (q := a.den * b.den) L (Int.mul_ne_zero (den_ne a) (den_ne b)) (by omega)
  rw [add_ints] at r
  rw [call_of hT]
  simp -implicitDefEqProofs only [varE_ev, cE_ev, argsE_nil, argsE_cons, aK1_ok, aK2_ok, tupE_ev, tupK_ok, lstE_ev, lstK_ok, dctE_ev, newL_t, newL_f, newD_t, newD_f, binE_ev, binK1_ok, binK2_ok, idxE_ev, idxK1_ok, idxK2_ok, cmpE_ev, cmpK1_ok, cmpK2_ok, optV_s, optB_s, testB_ev, testK_ok, truE_ev, truK_ok, truO_s, notT_ev, notK_ok, andT_ev, andK_t, andK_f, orT_ev, orK_t, orK_f, andE_ev, andV1_ok, andV2_t, andV2_f, orE_ev, orV1_ok, orV2_t, orV2_f, notE_ev, notV1_ok, notV2_s, negE_ev, negK_ok, ifE_ev, ifV_t, ifV_f, chainE_ev, chK1_ok, chK2_ok, chK3_t, chK3_f, chK4_ok, partE_ev, partK_ok, noE_ev, sliceE_ev, slK1_ok, slK2_ok, slK3_ok, callE_ev, callK_ok, biE_ev, biK_ok, appE_ev, apK2_ok, getE_ev, geK2_ok, get2E_ev, gfK2_ok, gfK3_ok, geO_ok, asgN_ev, asgK_ok, asgT_ev, asgTK_ok, asgO_s, putE_ev, putK1_ok, putK2_ok, putK3_ok, putK4_ok, retE_ev, retK_ok, retN_ev, exprS_ev, exprK_ok, passS_ev, breakS_ev, contS_ev, ifS_ev, ifK_t, ifK_f, blkS_nil, blkS_cons, blkK_n, blkK_r, blkK_b, blkK_c, finK_r, finK_n, stT_nm, stT_tp, stTs_nil, stTs_cons, stO_s, Ev.add_int, Ev.sub_int, mul_intE, div_int, mod_intE, lt_intE, gt_intE, le_intE, ge_intE, eq_intE, ne_intE, eq_strE, ne_strE, eq_blE, ne_blE, is_nonE, is_blE, isnot_nonE, idx_lst, idx_tup, idx_refI, idx_refS, idx_dctI, idx_dctS, setL_lst, setL_str, ix4_0, ix4_1, ix4_2, ix4_3, fin_f, List.map, List.replicate, List.length_cons, List.length_nil, List.nil_append, List.cons_append, List.getElem?_cons_zero, List.getElem?_cons_succ, List.set_cons_zero, List.set_cons_succ, if_true, if_false, decide_true, decide_false, Bool.not_true, Bool.not_false, ite_true, ite_false, Ev.bi_len, lenO_s, bi_int, bi_intb, bi_abs, bi_min, bi_max, bi_gcd, bi_str, tr_bl, tr_int, Nat.sub_self, Nat.zero_add, Nat.reduceAdd, Nat.reduceSub, atI_0, atI_1, atI_2, atI_3, atI_4, Int.reduceNeg, Ev.pow_int, and_self, Bool.false_eq_true, reduceCtorEq, Option.bind_some, Option.bind_none, id_eq, Int.le_refl, Int.lt_irrefl, Int.reduceEq, Int.reduceNe, Int.reduceLT, Int.reduceLE, Int.reducePow, Int.reduceToNat, Int.reduceAbs, Nat.reducePow, Nat.reduceLT, Nat.reduceLeDiff, Nat.reduceEqDiff, Nat.reduceMul, b_law_add, c1, c2, c3, r, show fr a = .tup [.int a.num, .int (a.den : Int)] from rfl, show fr b = .tup [.int b.num, .int (b.den : Int)] from rfl]
theorem lsub_eq (hG : Has T "_law_gcd" 3 false b_law_gcd) (hR : Has T "_law_ratio" 3 false b_law_ratio) (hT : Has T "_law_sub" 2 false b_law_sub) (k : Nat) {a b : Rat} {m n : Nat} (L : List LO) (ha : Sz m a) (hb : Sz n b) (h : m + n < 8990) : evCall T (k + 3) "_law_sub" [fr a, fr b] L = .ok (fr (a - b)) L := by
  obtain ⟨c1, c2, c3, c4, c5⟩ := mulN ha hb (by omega)
  have := lg_mul (a.den : Int) b.den
  have := ha.b; have := hb.b
  have r := lratio_eq hG hR k (p := a.num * b.den - b.num * a.den) (q := a.den * b.den) L (Int.mul_ne_zero (den_ne a) (den_ne b)) (by omega)
  rw [sub_ints] at r
  rw [call_of hT]
  simp -implicitDefEqProofs only [varE_ev, cE_ev, argsE_nil, argsE_cons, aK1_ok, aK2_ok, tupE_ev, tupK_ok, lstE_ev, lstK_ok, dctE_ev, newL_t, newL_f, newD_t, newD_f, binE_ev, binK1_ok, binK2_ok, idxE_ev, idxK1_ok, idxK2_ok, cmpE_ev, cmpK1_ok, cmpK2_ok, optV_s, optB_s, testB_ev, testK_ok, truE_ev, truK_ok, truO_s, notT_ev, notK_ok, andT_ev, andK_t, andK_f, orT_ev, orK_t, orK_f, andE_ev, andV1_ok, andV2_t, andV2_f, orE_ev, orV1_ok, orV2_t, orV2_f, notE_ev, notV1_ok, notV2_s, negE_ev, negK_ok, ifE_ev, ifV_t, ifV_f, chainE_ev, chK1_ok, chK2_ok, chK3_t, chK3_f, chK4_ok, partE_ev, partK_ok, noE_ev, sliceE_ev, slK1_ok, slK2_ok, slK3_ok, callE_ev, callK_ok, biE_ev, biK_ok, appE_ev, apK2_ok, getE_ev, geK2_ok, get2E_ev, gfK2_ok, gfK3_ok, geO_ok, asgN_ev, asgK_ok, asgT_ev, asgTK_ok, asgO_s, putE_ev, putK1_ok, putK2_ok, putK3_ok, putK4_ok, retE_ev, retK_ok, retN_ev, exprS_ev, exprK_ok, passS_ev, breakS_ev, contS_ev, ifS_ev, ifK_t, ifK_f, blkS_nil, blkS_cons, blkK_n, blkK_r, blkK_b, blkK_c, finK_r, finK_n, stT_nm, stT_tp, stTs_nil, stTs_cons, stO_s, Ev.add_int, Ev.sub_int, mul_intE, div_int, mod_intE, lt_intE, gt_intE, le_intE, ge_intE, eq_intE, ne_intE, eq_strE, ne_strE, eq_blE, ne_blE, is_nonE, is_blE, isnot_nonE, idx_lst, idx_tup, idx_refI, idx_refS, idx_dctI, idx_dctS, setL_lst, setL_str, ix4_0, ix4_1, ix4_2, ix4_3, fin_f, List.map, List.replicate, List.length_cons, List.length_nil, List.nil_append, List.cons_append, List.getElem?_cons_zero, List.getElem?_cons_succ, List.set_cons_zero, List.set_cons_succ, if_true, if_false, decide_true, decide_false, Bool.not_true, Bool.not_false, ite_true, ite_false, Ev.bi_len, lenO_s, bi_int, bi_intb, bi_abs, bi_min, bi_max, bi_gcd, bi_str, tr_bl, tr_int, Nat.sub_self, Nat.zero_add, Nat.reduceAdd, Nat.reduceSub, atI_0, atI_1, atI_2, atI_3, atI_4, Int.reduceNeg, Ev.pow_int, and_self, Bool.false_eq_true, reduceCtorEq, Option.bind_some, Option.bind_none, id_eq, Int.le_refl, Int.lt_irrefl, Int.reduceEq, Int.reduceNe, Int.reduceLT, Int.reduceLE, Int.reducePow, Int.reduceToNat, Int.reduceAbs, Nat.reducePow, Nat.reduceLT, Nat.reduceLeDiff, Nat.reduceEqDiff, Nat.reduceMul, b_law_sub, c1, c2, c3, r, show fr a = .tup [.int a.num, .int (a.den : Int)] from rfl, show fr b = .tup [.int b.num, .int (b.den : Int)] from rfl]
theorem lmul_eq (hG : Has T "_law_gcd" 3 false b_law_gcd) (hR : Has T "_law_ratio" 3 false b_law_ratio) (hT : Has T "_law_mul" 2 false b_law_mul) (k : Nat) {a b : Rat} {m n : Nat} (L : List LO) (ha : Sz m a) (hb : Sz n b) (h : m + n < 8990) : evCall T (k + 3) "_law_mul" [fr a, fr b] L = .ok (fr (a * b)) L := by
  obtain ⟨c1, c2, c3, c4, c5⟩ := mulN ha hb (by omega)
  have := lg_mul (a.den : Int) b.den
  have := ha.b; have := hb.b
  have r := lratio_eq hG hR k (p := a.num * b.num) (q := a.den * b.den) L (Int.mul_ne_zero (den_ne a) (den_ne b)) (by omega)
  rw [mul_ints] at r
  rw [call_of hT]
  simp -implicitDefEqProofs only [varE_ev, cE_ev, argsE_nil, argsE_cons, aK1_ok, aK2_ok, tupE_ev, tupK_ok, lstE_ev, lstK_ok, dctE_ev, newL_t, newL_f, newD_t, newD_f, binE_ev, binK1_ok, binK2_ok, idxE_ev, idxK1_ok, idxK2_ok, cmpE_ev, cmpK1_ok, cmpK2_ok, optV_s, optB_s, testB_ev, testK_ok, truE_ev, truK_ok, truO_s, notT_ev, notK_ok, andT_ev, andK_t, andK_f, orT_ev, orK_t, orK_f, andE_ev, andV1_ok, andV2_t, andV2_f, orE_ev, orV1_ok, orV2_t, orV2_f, notE_ev, notV1_ok, notV2_s, negE_ev, negK_ok, ifE_ev, ifV_t, ifV_f, chainE_ev, chK1_ok, chK2_ok, chK3_t, chK3_f, chK4_ok, partE_ev, partK_ok, noE_ev, sliceE_ev, slK1_ok, slK2_ok, slK3_ok, callE_ev, callK_ok, biE_ev, biK_ok, appE_ev, apK2_ok, getE_ev, geK2_ok, get2E_ev, gfK2_ok, gfK3_ok, geO_ok, asgN_ev, asgK_ok, asgT_ev, asgTK_ok, asgO_s, putE_ev, putK1_ok, putK2_ok, putK3_ok, putK4_ok, retE_ev, retK_ok, retN_ev, exprS_ev, exprK_ok, passS_ev, breakS_ev, contS_ev, ifS_ev, ifK_t, ifK_f, blkS_nil, blkS_cons, blkK_n, blkK_r, blkK_b, blkK_c, finK_r, finK_n, stT_nm, stT_tp, stTs_nil, stTs_cons, stO_s, Ev.add_int, Ev.sub_int, mul_intE, div_int, mod_intE, lt_intE, gt_intE, le_intE, ge_intE, eq_intE, ne_intE, eq_strE, ne_strE, eq_blE, ne_blE, is_nonE, is_blE, isnot_nonE, idx_lst, idx_tup, idx_refI, idx_refS, idx_dctI, idx_dctS, setL_lst, setL_str, ix4_0, ix4_1, ix4_2, ix4_3, fin_f, List.map, List.replicate, List.length_cons, List.length_nil, List.nil_append, List.cons_append, List.getElem?_cons_zero, List.getElem?_cons_succ, List.set_cons_zero, List.set_cons_succ, if_true, if_false, decide_true, decide_false, Bool.not_true, Bool.not_false, ite_true, ite_false, Ev.bi_len, lenO_s, bi_int, bi_intb, bi_abs, bi_min, bi_max, bi_gcd, bi_str, tr_bl, tr_int, Nat.sub_self, Nat.zero_add, Nat.reduceAdd, Nat.reduceSub, atI_0, atI_1, atI_2, atI_3, atI_4, Int.reduceNeg, Ev.pow_int, and_self, Bool.false_eq_true, reduceCtorEq, Option.bind_some, Option.bind_none, id_eq, Int.le_refl, Int.lt_irrefl, Int.reduceEq, Int.reduceNe, Int.reduceLT, Int.reduceLE, Int.reducePow, Int.reduceToNat, Int.reduceAbs, Nat.reducePow, Nat.reduceLT, Nat.reduceLeDiff, Nat.reduceEqDiff, Nat.reduceMul, b_law_mul, c3, c4, r, show fr a = .tup [.int a.num, .int (a.den : Int)] from rfl, show fr b = .tup [.int b.num, .int (b.den : Int)] from rfl]
theorem ldiv_eq (hG : Has T "_law_gcd" 3 false b_law_gcd) (hR : Has T "_law_ratio" 3 false b_law_ratio) (hT : Has T "_law_div" 2 false b_law_div) (k : Nat) {a b : Rat} {m n : Nat} (L : List LO) (ha : Sz m a) (hb : Sz n b) (h : m + n < 8990) (h0 : b ≠ 0) : evCall T (k + 3) "_law_div" [fr a, fr b] L = .ok (fr (a / b)) L := by
  obtain ⟨c1, c2, c3, c4, c5⟩ := mulN ha hb (by omega)
  have := lg_mul (a.den : Int) b.num
  have := ha.b; have := hb.a
  have r := lratio_eq hG hR k (p := a.num * b.den) (q := a.den * b.num) L (Int.mul_ne_zero (den_ne a) (num_ne h0)) (by omega)
  rw [div_ints a b h0] at r
  rw [call_of hT]
  simp -implicitDefEqProofs only [varE_ev, cE_ev, argsE_nil, argsE_cons, aK1_ok, aK2_ok, tupE_ev, tupK_ok, lstE_ev, lstK_ok, dctE_ev, newL_t, newL_f, newD_t, newD_f, binE_ev, binK1_ok, binK2_ok, idxE_ev, idxK1_ok, idxK2_ok, cmpE_ev, cmpK1_ok, cmpK2_ok, optV_s, optB_s, testB_ev, testK_ok, truE_ev, truK_ok, truO_s, notT_ev, notK_ok, andT_ev, andK_t, andK_f, orT_ev, orK_t, orK_f, andE_ev, andV1_ok, andV2_t, andV2_f, orE_ev, orV1_ok, orV2_t, orV2_f, notE_ev, notV1_ok, notV2_s, negE_ev, negK_ok, ifE_ev, ifV_t, ifV_f, chainE_ev, chK1_ok, chK2_ok, chK3_t, chK3_f, chK4_ok, partE_ev, partK_ok, noE_ev, sliceE_ev, slK1_ok, slK2_ok, slK3_ok, callE_ev, callK_ok, biE_ev, biK_ok, appE_ev, apK2_ok, getE_ev, geK2_ok, get2E_ev, gfK2_ok, gfK3_ok, geO_ok, asgN_ev, asgK_ok, asgT_ev, asgTK_ok, asgO_s, putE_ev, putK1_ok, putK2_ok, putK3_ok, putK4_ok, retE_ev, retK_ok, retN_ev, exprS_ev, exprK_ok, passS_ev, breakS_ev, contS_ev, ifS_ev, ifK_t, ifK_f, blkS_nil, blkS_cons, blkK_n, blkK_r, blkK_b, blkK_c, finK_r, finK_n, stT_nm, stT_tp, stTs_nil, stTs_cons, stO_s, Ev.add_int, Ev.sub_int, mul_intE, div_int, mod_intE, lt_intE, gt_intE, le_intE, ge_intE, eq_intE, ne_intE, eq_strE, ne_strE, eq_blE, ne_blE, is_nonE, is_blE, isnot_nonE, idx_lst, idx_tup, idx_refI, idx_refS, idx_dctI, idx_dctS, setL_lst, setL_str, ix4_0, ix4_1, ix4_2, ix4_3, fin_f, List.map, List.replicate, List.length_cons, List.length_nil, List.nil_append, List.cons_append, List.getElem?_cons_zero, List.getElem?_cons_succ, List.set_cons_zero, List.set_cons_succ, if_true, if_false, decide_true, decide_false, Bool.not_true, Bool.not_false, ite_true, ite_false, Ev.bi_len, lenO_s, bi_int, bi_intb, bi_abs, bi_min, bi_max, bi_gcd, bi_str, tr_bl, tr_int, Nat.sub_self, Nat.zero_add, Nat.reduceAdd, Nat.reduceSub, atI_0, atI_1, atI_2, atI_3, atI_4, Int.reduceNeg, Ev.pow_int, and_self, Bool.false_eq_true, reduceCtorEq, Option.bind_some, Option.bind_none, id_eq, Int.le_refl, Int.lt_irrefl, Int.reduceEq, Int.reduceNe, Int.reduceLT, Int.reduceLE, Int.reducePow, Int.reduceToNat, Int.reduceAbs, Nat.reducePow, Nat.reduceLT, Nat.reduceLeDiff, Nat.reduceEqDiff, Nat.reduceMul, b_law_div, c1, c5, r, show fr a = .tup [.int a.num, .int (a.den : Int)] from rfl, show fr b = .tup [.int b.num, .int (b.den : Int)] from rfl]
end
end Ev

set_option maxHeartbeats 4000000
/-! Ev21: data, _law_same, _law_copied. -/
namespace Ev
open PySem PySem.Spec PyProof.Rows L2
section
variable {L : List LO} {mu : Bool}
theorem isi_non_dict : biL .isi mu [.non, .ty "dict"] L = .ok (.bl false) L := by unfold biL tyName; rfl
theorem isi_non_list : biL .isi mu [.non, .ty "list"] L = .ok (.bl false) L := by unfold biL tyName; rfl
theorem isi_non_tuple : biL .isi mu [.non, .ty "tuple"] L = .ok (.bl false) L := by unfold biL tyName; rfl
theorem isi_non_str : biL .isi mu [.non, .ty "str"] L = .ok (.bl false) L := by unfold biL tyName; rfl
theorem isi_non_int : biL .isi mu [.non, .ty "int"] L = .ok (.bl false) L := by unfold biL tyName; rfl
theorem isi_non_bool : biL .isi mu [.non, .ty "bool"] L = .ok (.bl false) L := by unfold biL tyName; rfl
theorem isi_bl_dict {b : Bool} : biL .isi mu [(.bl b), .ty "dict"] L = .ok (.bl false) L := by unfold biL tyName; rfl
theorem isi_bl_list {b : Bool} : biL .isi mu [(.bl b), .ty "list"] L = .ok (.bl false) L := by unfold biL tyName; rfl
theorem isi_bl_tuple {b : Bool} : biL .isi mu [(.bl b), .ty "tuple"] L = .ok (.bl false) L := by unfold biL tyName; rfl
theorem isi_bl_str {b : Bool} : biL .isi mu [(.bl b), .ty "str"] L = .ok (.bl false) L := by unfold biL tyName; rfl
theorem isi_bl_int {b : Bool} : biL .isi mu [(.bl b), .ty "int"] L = .ok (.bl true) L := by unfold biL tyName; rfl
theorem isi_bl_bool {b : Bool} : biL .isi mu [(.bl b), .ty "bool"] L = .ok (.bl true) L := by unfold biL tyName; rfl
theorem isi_int_dict {i : Int} : biL .isi mu [(.int i), .ty "dict"] L = .ok (.bl false) L := by unfold biL tyName; rfl
theorem isi_int_list {i : Int} : biL .isi mu [(.int i), .ty "list"] L = .ok (.bl false) L := by unfold biL tyName; rfl
theorem isi_int_tuple {i : Int} : biL .isi mu [(.int i), .ty "tuple"] L = .ok (.bl false) L := by unfold biL tyName; rfl
theorem isi_int_str {i : Int} : biL .isi mu [(.int i), .ty "str"] L = .ok (.bl false) L := by unfold biL tyName; rfl
theorem isi_int_int {i : Int} : biL .isi mu [(.int i), .ty "int"] L = .ok (.bl true) L := by unfold biL tyName; rfl
theorem isi_int_bool {i : Int} : biL .isi mu [(.int i), .ty "bool"] L = .ok (.bl false) L := by unfold biL tyName; rfl
theorem isi_str_dict {z : Str} : biL .isi mu [(.str z), .ty "dict"] L = .ok (.bl false) L := by unfold biL tyName; rfl
theorem isi_str_list {z : Str} : biL .isi mu [(.str z), .ty "list"] L = .ok (.bl false) L := by unfold biL tyName; rfl
theorem isi_str_tuple {z : Str} : biL .isi mu [(.str z), .ty "tuple"] L = .ok (.bl false) L := by unfold biL tyName; rfl
theorem isi_str_str {z : Str} : biL .isi mu [(.str z), .ty "str"] L = .ok (.bl true) L := by unfold biL tyName; rfl
theorem isi_str_int {z : Str} : biL .isi mu [(.str z), .ty "int"] L = .ok (.bl false) L := by unfold biL tyName; rfl
theorem isi_str_bool {z : Str} : biL .isi mu [(.str z), .ty "bool"] L = .ok (.bl false) L := by unfold biL tyName; rfl
theorem isi_tup_dict {xs : List LV} : biL .isi mu [(.tup xs), .ty "dict"] L = .ok (.bl false) L := by unfold biL tyName; rfl
theorem isi_tup_list {xs : List LV} : biL .isi mu [(.tup xs), .ty "list"] L = .ok (.bl false) L := by unfold biL tyName; rfl
theorem isi_tup_tuple {xs : List LV} : biL .isi mu [(.tup xs), .ty "tuple"] L = .ok (.bl true) L := by unfold biL tyName; rfl
theorem isi_tup_str {xs : List LV} : biL .isi mu [(.tup xs), .ty "str"] L = .ok (.bl false) L := by unfold biL tyName; rfl
theorem isi_tup_int {xs : List LV} : biL .isi mu [(.tup xs), .ty "int"] L = .ok (.bl false) L := by unfold biL tyName; rfl
theorem isi_tup_bool {xs : List LV} : biL .isi mu [(.tup xs), .ty "bool"] L = .ok (.bl false) L := by unfold biL tyName; rfl
theorem isi_lst_dict {xs : List LV} : biL .isi mu [(.lst xs), .ty "dict"] L = .ok (.bl false) L := by unfold biL tyName; rfl
theorem isi_lst_list {xs : List LV} : biL .isi mu [(.lst xs), .ty "list"] L = .ok (.bl true) L := by unfold biL tyName; rfl
theorem isi_lst_tuple {xs : List LV} : biL .isi mu [(.lst xs), .ty "tuple"] L = .ok (.bl false) L := by unfold biL tyName; rfl
theorem isi_lst_str {xs : List LV} : biL .isi mu [(.lst xs), .ty "str"] L = .ok (.bl false) L := by unfold biL tyName; rfl
theorem isi_lst_int {xs : List LV} : biL .isi mu [(.lst xs), .ty "int"] L = .ok (.bl false) L := by unfold biL tyName; rfl
theorem isi_lst_bool {xs : List LV} : biL .isi mu [(.lst xs), .ty "bool"] L = .ok (.bl false) L := by unfold biL tyName; rfl
theorem isi_dct_dict {kvs : List (DK × LV)} (h : kDict kvs = true) : biL .isi mu [.dct kvs, .ty "dict"] L = .ok (.bl true) L := by unfold biL tyName; simp only [h, if_true]; rfl
theorem isi_rd_dict {a : Nat} {kvs : List (DK × LV)} (ha : L[a]? = some (.dct kvs)) (h : kDict kvs = true) : biL .isi mu [.ref a, .ty "dict"] L = .ok (.bl true) L := by unfold biL tyName; simp only [ha, h, if_true]; rfl
theorem isi_rk_dict {a : Nat} {kvs : List (DK × LV)} (ha : L[a]? = some (.lkd kvs)) (h : kDict kvs = true) : biL .isi mu [.ref a, .ty "dict"] L = .ok (.bl true) L := by unfold biL tyName; simp only [ha, h, if_true]; rfl
theorem isi_rl_dict {a : Nat} {xs : List LV} (ha : L[a]? = some (.lst xs)) : biL .isi mu [.ref a, .ty "dict"] L = .ok (.bl false) L := by unfold biL tyName; simp only [ha]; rfl
theorem isi_dct_list {kvs : List (DK × LV)} (h : kDict kvs = true) : biL .isi mu [.dct kvs, .ty "list"] L = .ok (.bl false) L := by unfold biL tyName; simp only [h, if_true]; rfl
theorem isi_rd_list {a : Nat} {kvs : List (DK × LV)} (ha : L[a]? = some (.dct kvs)) (h : kDict kvs = true) : biL .isi mu [.ref a, .ty "list"] L = .ok (.bl false) L := by unfold biL tyName; simp only [ha, h, if_true]; rfl
theorem isi_rk_list {a : Nat} {kvs : List (DK × LV)} (ha : L[a]? = some (.lkd kvs)) (h : kDict kvs = true) : biL .isi mu [.ref a, .ty "list"] L = .ok (.bl false) L := by unfold biL tyName; simp only [ha, h, if_true]; rfl
theorem isi_rl_list {a : Nat} {xs : List LV} (ha : L[a]? = some (.lst xs)) : biL .isi mu [.ref a, .ty "list"] L = .ok (.bl true) L := by unfold biL tyName; simp only [ha]; rfl
theorem isi_dct_tuple {kvs : List (DK × LV)} (h : kDict kvs = true) : biL .isi mu [.dct kvs, .ty "tuple"] L = .ok (.bl false) L := by unfold biL tyName; simp only [h, if_true]; rfl
theorem isi_rd_tuple {a : Nat} {kvs : List (DK × LV)} (ha : L[a]? = some (.dct kvs)) (h : kDict kvs = true) : biL .isi mu [.ref a, .ty "tuple"] L = .ok (.bl false) L := by unfold biL tyName; simp only [ha, h, if_true]; rfl
theorem isi_rk_tuple {a : Nat} {kvs : List (DK × LV)} (ha : L[a]? = some (.lkd kvs)) (h : kDict kvs = true) : biL .isi mu [.ref a, .ty "tuple"] L = .ok (.bl false) L := by unfold biL tyName; simp only [ha, h, if_true]; rfl
theorem isi_rl_tuple {a : Nat} {xs : List LV} (ha : L[a]? = some (.lst xs)) : biL .isi mu [.ref a, .ty "tuple"] L = .ok (.bl false) L := by unfold biL tyName; simp only [ha]; rfl
theorem isi_dct_str {kvs : List (DK × LV)} (h : kDict kvs = true) : biL .isi mu [.dct kvs, .ty "str"] L = .ok (.bl false) L := by unfold biL tyName; simp only [h, if_true]; rfl
theorem isi_rd_str {a : Nat} {kvs : List (DK × LV)} (ha : L[a]? = some (.dct kvs)) (h : kDict kvs = true) : biL .isi mu [.ref a, .ty "str"] L = .ok (.bl false) L := by unfold biL tyName; simp only [ha, h, if_true]; rfl
theorem isi_rk_str {a : Nat} {kvs : List (DK × LV)} (ha : L[a]? = some (.lkd kvs)) (h : kDict kvs = true) : biL .isi mu [.ref a, .ty "str"] L = .ok (.bl false) L := by unfold biL tyName; simp only [ha, h, if_true]; rfl
theorem isi_rl_str {a : Nat} {xs : List LV} (ha : L[a]? = some (.lst xs)) : biL .isi mu [.ref a, .ty "str"] L = .ok (.bl false) L := by unfold biL tyName; simp only [ha]; rfl
theorem isi_dct_int {kvs : List (DK × LV)} (h : kDict kvs = true) : biL .isi mu [.dct kvs, .ty "int"] L = .ok (.bl false) L := by unfold biL tyName; simp only [h, if_true]; rfl
theorem isi_rd_int {a : Nat} {kvs : List (DK × LV)} (ha : L[a]? = some (.dct kvs)) (h : kDict kvs = true) : biL .isi mu [.ref a, .ty "int"] L = .ok (.bl false) L := by unfold biL tyName; simp only [ha, h, if_true]; rfl
theorem isi_rk_int {a : Nat} {kvs : List (DK × LV)} (ha : L[a]? = some (.lkd kvs)) (h : kDict kvs = true) : biL .isi mu [.ref a, .ty "int"] L = .ok (.bl false) L := by unfold biL tyName; simp only [ha, h, if_true]; rfl
theorem isi_rl_int {a : Nat} {xs : List LV} (ha : L[a]? = some (.lst xs)) : biL .isi mu [.ref a, .ty "int"] L = .ok (.bl false) L := by unfold biL tyName; simp only [ha]; rfl
theorem isi_dct_bool {kvs : List (DK × LV)} (h : kDict kvs = true) : biL .isi mu [.dct kvs, .ty "bool"] L = .ok (.bl false) L := by unfold biL tyName; simp only [h, if_true]; rfl
theorem isi_rd_bool {a : Nat} {kvs : List (DK × LV)} (ha : L[a]? = some (.dct kvs)) (h : kDict kvs = true) : biL .isi mu [.ref a, .ty "bool"] L = .ok (.bl false) L := by unfold biL tyName; simp only [ha, h, if_true]; rfl
theorem isi_rk_bool {a : Nat} {kvs : List (DK × LV)} (ha : L[a]? = some (.lkd kvs)) (h : kDict kvs = true) : biL .isi mu [.ref a, .ty "bool"] L = .ok (.bl false) L := by unfold biL tyName; simp only [ha, h, if_true]; rfl
theorem isi_rl_bool {a : Nat} {xs : List LV} (ha : L[a]? = some (.lst xs)) : biL .isi mu [.ref a, .ty "bool"] L = .ok (.bl false) L := by unfold biL tyName; simp only [ha]; rfl
theorem isb_int {i : Int} {b : Bool} : cmpL .Is L (.int i) (.bl b) = some false := rfl
theorem isb_str {z : Str} {b : Bool} : cmpL .Is L (.str z) (.bl b) = some false := rfl
theorem isb_tup {xs : List LV} {b : Bool} : cmpL .Is L (.tup xs) (.bl b) = some false := rfl
theorem isb_lst {xs : List LV} {b : Bool} : cmpL .Is L (.lst xs) (.bl b) = some false := rfl
theorem isb_dct {kvs : List (DK × LV)} {b : Bool} : cmpL .Is L (.dct kvs) (.bl b) = some false := rfl
theorem isb_ref {a : Nat} {b : Bool} : cmpL .Is L (.ref a) (.bl b) = some false := rfl
theorem isb_non {b : Bool} : cmpL .Is L .non (.bl b) = some false := rfl
theorem isn_int {i : Int} : isNon (.int i) = false := rfl
theorem isn_str {z : Str} : isNon (.str z) = false := rfl
theorem isn_tup {xs : List LV} : isNon (.tup xs) = false := rfl
theorem isn_lst {xs : List LV} : isNon (.lst xs) = false := rfl
theorem isn_dct {kvs : List (DK × LV)} : isNon (.dct kvs) = false := rfl
theorem isn_ref {a : Nat} : isNon (.ref a) = false := rfl
theorem isn_non : isNon .non = true := rfl
theorem isn_bl {b : Bool} : isNon (.bl b) = false := rfl
end
/-! _law_same(answer, due) : 0 answer, 1 due, 2 key, 3 k -/
def c_law_sameA_1 : LE := lcN 1 (.nm 2) yesT (andE (cmpE .In (varE 2) (varE 0)) (callE "_law_same" [(idxE (varE 0) (varE 2)), (idxE (varE 1) (varE 2))])) [2] false
def c_law_sameA_2 : LE := lcE (rngS [(biE .len false [(varE 1)])]) (.nm 3) yesT (callE "_law_same" [(idxE (varE 0) (varE 3)), (idxE (varE 1) (varE 3))]) [3] false
def b_law_sameA : LSt := (blkS [
  ifS (truE (biE .isi false [(varE 1), (cE (.ty "dict"))])) (blkS [
    ifS (orT (notT (truE (biE .isi false [(varE 0), (cE (.ty "dict"))]))) (testB (cmpE .NotEq (biE .len false [(varE 0)]) (biE .len false [(varE 1)])))) (blkS [
      retE (cE (.bl false))]) (blkS []),
    retE (biE .all false [c_law_sameA_1])]) (blkS []),
  ifS (orT (truE (biE .isi false [(varE 1), (cE (.ty "list"))])) (truE (biE .isi false [(varE 1), (cE (.ty "tuple"))]))) (blkS [
    ifS (orT (testB (cmpE .NotEq (biE .isi false [(varE 1), (cE (.ty "list"))]) (biE .isi false [(varE 0), (cE (.ty "list"))]))) (testB (cmpE .NotEq (biE .isi false [(varE 1), (cE (.ty "tuple"))]) (biE .isi false [(varE 0), (cE (.ty "tuple"))])))) (blkS [
      retE (cE (.bl false))]) (blkS []),
    retE (andE (cmpE .Eq (biE .len false [(varE 0)]) (biE .len false [(varE 1)])) (biE .all false [c_law_sameA_2]))]) (blkS []),
  ifS (truE (biE .isi false [(varE 1), (cE (.ty "str"))])) (blkS [
    retE (andE (biE .isi false [(varE 0), (cE (.ty "str"))]) (cmpE .Eq (varE 0) (varE 1)))]) (blkS []),
  ifS (orT (testB (cmpE .Is (varE 1) (cE .non))) (orT (testB (cmpE .Is (varE 1) (cE (.bl true)))) (testB (cmpE .Is (varE 1) (cE (.bl false)))))) (blkS [
    retE (orE (andE (cmpE .Is (varE 1) (cE .non)) (cmpE .Is (varE 0) (cE .non))) (orE (andE (cmpE .Is (varE 1) (cE (.bl true))) (cmpE .Is (varE 0) (cE (.bl true)))) (andE (cmpE .Is (varE 1) (cE (.bl false))) (cmpE .Is (varE 0) (cE (.bl false))))))]) (blkS []),
  retE (andE (biE .isi false [(varE 0), (cE (.ty "int"))]) (andE (notE (biE .isi false [(varE 0), (cE (.ty "bool"))])) (cmpE .Eq (varE 0) (varE 1))))])
/-! _law_copied(value) : 0 value, 1 found, 2 key, 3 one -/
def l_law_copied_1 : LSt := (blkS [
  putE (callE "_law_copied" [(idxE (varE 0) (varE 2))]) (varE 1) (varE 2)])
def f_law_copied_1 : LSt := forN 0 (.nm 2) l_law_copied_1
def c_law_copied_1 : LE := lcN 0 (.nm 3) yesT (callE "_law_copied" [(varE 3)]) [3] false
def c_law_copied_2 : LE := lcN 0 (.nm 3) yesT (callE "_law_copied" [(varE 3)]) [3] false
def b_law_copied : LSt := (blkS [
  ifS (truE (biE .isi false [(varE 0), (cE (.ty "dict"))])) (blkS [
    asgN 1 (dctE true),
    f_law_copied_1,
    retE (varE 1)]) (blkS []),
  ifS (truE (biE .isi false [(varE 0), (cE (.ty "list"))])) (blkS [
    retE c_law_copied_1]) (blkS []),
  ifS (truE (biE .isi false [(varE 0), (cE (.ty "tuple"))])) (blkS [
    retE (biE .tuple false [c_law_copied_2])]) (blkS []),
  retE (varE 0)])
/-! _law_name(pool, serial) : 0 pool, 1 serial, 2 letters, 3 name, 4 k -/
def l_law_nameA_1 : LSt := (blkS [
  asgN 3 (binE .Add false (varE 3) (idxE (binE .Add false (varE 2) (cE (.str "0123456789"))) (callE "_law_draw" [(varE 0), (cE (.int 36))])))])
def f_law_nameA_1 : LSt := forE (rngS [(callE "_law_pick" [(varE 0), (lstE false [(cE (.int 0)), (cE (.int 0)), (cE (.int 1)), (cE (.int 3)), (cE (.int 9))])])]) (.nm 4) l_law_nameA_1
def b_law_nameA : LSt := (blkS [
  asgN 2 (cE (.str "abcdefghijklmnopqrstuvwxyz")),
  asgN 3 (idxE (varE 2) (callE "_law_draw" [(varE 0), (cE (.int 26))])),
  f_law_nameA_1,
  retE (binE .Add false (sliceE false (varE 3) noE (partE (cE (.int 10)))) (sliceE false (biE .str false [(binE .Add false (cE (.int 100)) (varE 1))]) (partE (cE (.int 1))) noE))])

/-- keys are different -/
def Nd (kvs : List (DK × LV)) : Prop := (kvs.map (·.1)).Nodup
theorem dget_mem : ∀ {kvs : List (DK × LV)} {k : DK} {v : LV}, Nd kvs → (k, v) ∈ kvs → dget kvs k = some v
  | [], _, _, _, h => by cases h
  | (j, u) :: t, k, v, hn, h => by
    unfold Nd at hn
    rw [List.map_cons, List.nodup_cons] at hn
    unfold dget
    rw [List.find?_cons]
    rcases List.mem_cons.mp h with e | h
    · cases e
      simp
    · have ne : j ≠ k := fun e => hn.1 (List.mem_map.mpr ⟨(k, v), h, e.symm⟩)
      simp only [ne, decide_false]
      exact dget_mem (kvs := t) hn.2 h
/-- data: a tree of depth n -/
inductive Dat : Nat → LV → Prop
  | non {n : Nat} : Dat n .non
  | bl {n : Nat} (b : Bool) : Dat n (.bl b)
  | int {n : Nat} (i : Int) : Dat n (.int i)
  | str {n : Nat} (z : Str) : Dat n (.str z)
  | tup {n : Nat} {xs : List LV} (h : ∀ x ∈ xs, Dat n x) (hl : xs.length ≤ 1000) : Dat (n + 1) (.tup xs)
  | lst {n : Nat} {xs : List LV} (h : ∀ x ∈ xs, Dat n x) (hl : xs.length ≤ 1000) : Dat (n + 1) (.lst xs)
  | dct {n : Nat} {kvs : List (DK × LV)} (h : ∀ p ∈ kvs, Dat n p.2) (hk : kDict kvs = true) (hn : Nd kvs) (hl : kvs.length ≤ 1000) : Dat (n + 1) (.dct kvs)
theorem Dat.fr {n : Nat} (q : Rat) : Dat (n + 1) (fr q) := .tup (fun x hx => by
  simp only [List.mem_cons, List.not_mem_nil, or_false] at hx
  rcases hx with rfl | rfl
  · exact .int _
  · exact .int _) (by simp)
theorem Dat.up {n : Nat} {x : LV} (h : Dat n x) : Dat (n + 1) x := by
  induction h with
  | non => exact .non
  | bl b => exact .bl b
  | int b => exact .int b
  | str b => exact .str b
  | tup h hl ih => exact .tup ih hl
  | lst h hl ih => exact .lst ih hl
  | dct h hk hn hl ih => exact .dct ih hk hn hl
theorem small_line {n : Nat} (h : n ≤ 1000) : n < sizeLine := Nat.lt_of_le_of_lt h (by decide)
theorem kDict_toDK {kvs : List (DK × LV)} (hk : kDict kvs = true) {k : DK} {v : LV} (h : (k, v) ∈ kvs) : toDK k.toLV = some k := by
  have := List.all_eq_true.mp hk (k, v) h
  cases k with
  | k y => cases y <;> rfl
  | t xs => cases this
theorem all_true (n : Nat) : blsOf (List.replicate n (LV.bl true)) = some (List.replicate n true) := by
  induction n with
  | zero => rfl
  | succ n ih =>
    rw [List.replicate_succ]
    unfold blsOf
    rw [ih]; rfl
theorem map_const {α : Type} (xs : List α) (y : LV) : xs.map (fun _ => y) = List.replicate xs.length y := by
  induction xs with
  | nil => rfl
  | cons x t ih => rw [List.map_cons, ih]; rfl
section
variable {L : List LO} {mu : Bool}
theorem bi_allT {n : Nat} : biL .all mu [.lst (List.replicate n (.bl true))] L = .ok (.bl true) L := by
  unfold biL seqOf
  dsimp only
  rw [all_true]
  dsimp only
  congr 2
  rw [List.all_eq_true]
  intro x hx
  rw [List.eq_of_mem_replicate hx]; rfl
end
/-- from: a dict by its place of reading -/
theorem toLV_idx {L : List LO} {x : LV} {kvs : List (DK × LV)} (h : dctOf L x = some kvs) {k : DK} (ht : toDK k.toLV = some k) : idxL L x k.toLV = dget kvs k := idx_dct h ht
theorem keysL_mem {kvs : List (DK × LV)} {x : LV} (h : x ∈ keysL kvs) : ∃ k v, (k, v) ∈ kvs ∧ x = k.toLV := by
  unfold keysL at h
  obtain ⟨⟨k, v⟩, h1, h2⟩ := List.mem_map.mp h
  exact ⟨k, v, h1, h2.symm⟩
theorem filter_yes {α : Type} (xs : List α) : (xs.filter fun _ => true) = xs := by simp
theorem frontL_nil (L : List LO) : frontL [] L = true := by unfold frontL; rfl
theorem wipe_2 {a b c : Option LV} {r : Sl} : wipeL (a :: b :: c :: r) [2] = a :: b :: none :: r := rfl
theorem wipe_3 {a b c d : Option LV} {r : Sl} : wipeL (a :: b :: c :: d :: r) [3] = a :: b :: c :: none :: r := rfl
section
variable {T : List (Str × FB)} {n k : Nat} {L : List LO}
/-- the comprehension over a dict: x the answer, y the due one, b what y holds -/
theorem sameA_c1 {cb : CB} {x y : LV} {a b : List (DK × LV)} (hx : dctOf L x = some a) (ha : kDict a = true) (hy : dctOf L y = some b) (hb : kDict b = true) (hbs : b.length ≤ 1000)
    (h : ∀ q ∈ b, ∃ v, dget a q.1 = some v ∧ dget b q.1 = some q.2 ∧ cb "_law_same" [v, q.2] L = .ok (.bl true) L) {s : Sl} (hs : s = [some x, some y, none, none]) :
    lcX (seqG (keysL b)) (.nm 2) yesT (andE (cmpE .In (varE 2) (varE 0)) (callE "_law_same" [(idxE (varE 0) (varE 2)), (idxE (varE 1) (varE 2))])) [2] false cb s L = .ok (.lst (List.replicate b.length (.bl true))) L := by
  subst hs
  rw [lcX_map (fun _ => true) (fun _ => .bl true)]
  · rw [show (keysL b).filter (fun _ => true) = keysL b from filter_yes _, map_const, keysL_length]; rfl
  · rw [keysL_length]; exact small_line hbs
  · intro z hz
    obtain ⟨q, v, hq, rfl⟩ := keysL_mem hz
    have ht := kDict_toDK hb hq
    obtain ⟨u, h1, h2, h3⟩ := h (q, v) hq
    have e1 : cmpL .In L q.toLV x = some true := by rw [in_dctE hx ht ha, h1]; rfl
    have e2 : idxL L x q.toLV = some u := by rw [toLV_idx hx ht, h1]
    have e3 : idxL L y q.toLV = some v := by rw [toLV_idx hy ht, h2]
    refine ⟨_, stT_nm, rfl, fun _ => ?_⟩
    simp -implicitDefEqProofs only [varE_ev, cE_ev, argsE_nil, argsE_cons, aK1_ok, aK2_ok, tupE_ev, tupK_ok, lstE_ev, lstK_ok, dctE_ev, newL_t, newL_f, newD_t, newD_f, binE_ev, binK1_ok, binK2_ok, idxE_ev, idxK1_ok, idxK2_ok, cmpE_ev, cmpK1_ok, cmpK2_ok, optV_s, optB_s, testB_ev, testK_ok, truE_ev, truK_ok, truO_s, notT_ev, notK_ok, andT_ev, andK_t, andK_f, orT_ev, orK_t, orK_f, andE_ev, andV1_ok, andV2_t, andV2_f, orE_ev, orV1_ok, orV2_t, orV2_f, notE_ev, notV1_ok, notV2_s, negE_ev, negK_ok, ifE_ev, ifV_t, ifV_f, chainE_ev, chK1_ok, chK2_ok, chK3_t, chK3_f, chK4_ok, partE_ev, partK_ok, noE_ev, sliceE_ev, slK1_ok, slK2_ok, slK3_ok, callE_ev, callK_ok, biE_ev, biK_ok, appE_ev, apK2_ok, getE_ev, geK2_ok, get2E_ev, gfK2_ok, gfK3_ok, geO_ok, asgN_ev, asgK_ok, asgT_ev, asgTK_ok, asgO_s, putE_ev, putK1_ok, putK2_ok, putK3_ok, putK4_ok, retE_ev, retK_ok, retN_ev, exprS_ev, exprK_ok, passS_ev, breakS_ev, contS_ev, ifS_ev, ifK_t, ifK_f, blkS_nil, blkS_cons, blkK_n, blkK_r, blkK_b, blkK_c, finK_r, finK_n, stT_nm, stT_tp, stTs_nil, stTs_cons, stO_s, Ev.add_int, Ev.sub_int, mul_intE, div_int, mod_intE, lt_intE, gt_intE, le_intE, ge_intE, eq_intE, ne_intE, eq_strE, ne_strE, eq_blE, ne_blE, is_nonE, is_blE, isnot_nonE, idx_lst, idx_tup, idx_refI, idx_refS, idx_dctI, idx_dctS, setL_lst, setL_str, ix4_0, ix4_1, ix4_2, ix4_3, fin_f, List.map, List.replicate, List.length_cons, List.length_nil, List.nil_append, List.cons_append, List.getElem?_cons_zero, List.getElem?_cons_succ, List.set_cons_zero, List.set_cons_succ, if_true, if_false, decide_true, decide_false, Bool.not_true, Bool.not_false, ite_true, ite_false, Ev.bi_len, lenO_s, bi_int, bi_intb, bi_abs, bi_min, bi_max, bi_gcd, bi_str, tr_bl, tr_int, Nat.sub_self, Nat.zero_add, Nat.reduceAdd, Nat.reduceSub, atI_0, atI_1, atI_2, atI_3, atI_4, Int.reduceNeg, Ev.pow_int, and_self, Bool.false_eq_true, reduceCtorEq, Option.bind_some, Option.bind_none, id_eq, Int.le_refl, Int.lt_irrefl, Int.reduceEq, Int.reduceNe, Int.reduceLT, Int.reduceLE, Int.reducePow, Int.reduceToNat, Int.reduceAbs, Nat.reducePow, Nat.reduceLT, Nat.reduceLeDiff, Nat.reduceEqDiff, Nat.reduceMul, wipe_2, e1, e2, e3, h3]
theorem sameA_c2 {cb : CB} {x y : LV} {a b : List LV} (hx : itemsOf L x = some a) (hxl : lenL L x = some a.length) (hy : itemsOf L y = some b) (hyl : lenL L y = some b.length) (hxi : ∀ i : Nat, idxL L x (.int i) = a[i]?) (hyi : ∀ i : Nat, idxL L y (.int i) = b[i]?) (hbs : b.length ≤ 1000)
    (h : ∀ (i : Nat) v, b[i]? = some v → ∃ u, a[i]? = some u ∧ cb "_law_same" [u, v] L = .ok (.bl true) L) {s : Sl} (hs : s = [some x, some y, none, none]) :
    c_law_sameA_2 cb s L = .ok (.lst (List.replicate b.length (.bl true))) L := by
  subst hs
  unfold c_law_sameA_2
  have e0 : biE .len false [varE 1] cb [some x, some y, none, none] L = .ok (.int b.length) L := by simp -implicitDefEqProofs only [varE_ev, cE_ev, argsE_nil, argsE_cons, aK1_ok, aK2_ok, tupE_ev, tupK_ok, lstE_ev, lstK_ok, dctE_ev, newL_t, newL_f, newD_t, newD_f, binE_ev, binK1_ok, binK2_ok, idxE_ev, idxK1_ok, idxK2_ok, cmpE_ev, cmpK1_ok, cmpK2_ok, optV_s, optB_s, testB_ev, testK_ok, truE_ev, truK_ok, truO_s, notT_ev, notK_ok, andT_ev, andK_t, andK_f, orT_ev, orK_t, orK_f, andE_ev, andV1_ok, andV2_t, andV2_f, orE_ev, orV1_ok, orV2_t, orV2_f, notE_ev, notV1_ok, notV2_s, negE_ev, negK_ok, ifE_ev, ifV_t, ifV_f, chainE_ev, chK1_ok, chK2_ok, chK3_t, chK3_f, chK4_ok, partE_ev, partK_ok, noE_ev, sliceE_ev, slK1_ok, slK2_ok, slK3_ok, callE_ev, callK_ok, biE_ev, biK_ok, appE_ev, apK2_ok, getE_ev, geK2_ok, get2E_ev, gfK2_ok, gfK3_ok, geO_ok, asgN_ev, asgK_ok, asgT_ev, asgTK_ok, asgO_s, putE_ev, putK1_ok, putK2_ok, putK3_ok, putK4_ok, retE_ev, retK_ok, retN_ev, exprS_ev, exprK_ok, passS_ev, breakS_ev, contS_ev, ifS_ev, ifK_t, ifK_f, blkS_nil, blkS_cons, blkK_n, blkK_r, blkK_b, blkK_c, finK_r, finK_n, stT_nm, stT_tp, stTs_nil, stTs_cons, stO_s, Ev.add_int, Ev.sub_int, mul_intE, div_int, mod_intE, lt_intE, gt_intE, le_intE, ge_intE, eq_intE, ne_intE, eq_strE, ne_strE, eq_blE, ne_blE, is_nonE, is_blE, isnot_nonE, idx_lst, idx_tup, idx_refI, idx_refS, idx_dctI, idx_dctS, setL_lst, setL_str, ix4_0, ix4_1, ix4_2, ix4_3, fin_f, List.map, List.replicate, List.length_cons, List.length_nil, List.nil_append, List.cons_append, List.getElem?_cons_zero, List.getElem?_cons_succ, List.set_cons_zero, List.set_cons_succ, if_true, if_false, decide_true, decide_false, Bool.not_true, Bool.not_false, ite_true, ite_false, Ev.bi_len, lenO_s, bi_int, bi_intb, bi_abs, bi_min, bi_max, bi_gcd, bi_str, tr_bl, tr_int, Nat.sub_self, Nat.zero_add, Nat.reduceAdd, Nat.reduceSub, atI_0, atI_1, atI_2, atI_3, atI_4, Int.reduceNeg, Ev.pow_int, and_self, Bool.false_eq_true, reduceCtorEq, Option.bind_some, Option.bind_none, id_eq, Int.le_refl, Int.lt_irrefl, Int.reduceEq, Int.reduceNe, Int.reduceLT, Int.reduceLE, Int.reducePow, Int.reduceToNat, Int.reduceAbs, Nat.reducePow, Nat.reduceLT, Nat.reduceLeDiff, Nat.reduceEqDiff, Nat.reduceMul, hyl]
  rw [lcE_rng e0 (by omega) (by omega), lcX_map (fun _ => true) (fun _ => .bl true)]
  · rw [show (rangeL 0 (b.length : Int).toNat).filter (fun _ => true) = rangeL 0 (b.length : Int).toNat from filter_yes _, map_const, rangeL_length, Int.toNat_natCast]; rfl
  · rw [rangeL_length, Int.toNat_natCast]; exact small_line hbs
  · intro z hz
    obtain ⟨i, hi, e⟩ := List.getElem_of_mem hz
    obtain ⟨h1, rfl⟩ := rangeL_get (i := i) (by rw [List.getElem?_eq_getElem hi, e])
    rw [Int.zero_add]
    rw [Int.toNat_natCast] at h1
    obtain ⟨u, h2, h3⟩ := h i b[i] (List.getElem?_eq_getElem h1)
    refine ⟨_, stT_nm, rfl, fun _ => ?_⟩
    simp -implicitDefEqProofs only [varE_ev, cE_ev, argsE_nil, argsE_cons, aK1_ok, aK2_ok, tupE_ev, tupK_ok, lstE_ev, lstK_ok, dctE_ev, newL_t, newL_f, newD_t, newD_f, binE_ev, binK1_ok, binK2_ok, idxE_ev, idxK1_ok, idxK2_ok, cmpE_ev, cmpK1_ok, cmpK2_ok, optV_s, optB_s, testB_ev, testK_ok, truE_ev, truK_ok, truO_s, notT_ev, notK_ok, andT_ev, andK_t, andK_f, orT_ev, orK_t, orK_f, andE_ev, andV1_ok, andV2_t, andV2_f, orE_ev, orV1_ok, orV2_t, orV2_f, notE_ev, notV1_ok, notV2_s, negE_ev, negK_ok, ifE_ev, ifV_t, ifV_f, chainE_ev, chK1_ok, chK2_ok, chK3_t, chK3_f, chK4_ok, partE_ev, partK_ok, noE_ev, sliceE_ev, slK1_ok, slK2_ok, slK3_ok, callE_ev, callK_ok, biE_ev, biK_ok, appE_ev, apK2_ok, getE_ev, geK2_ok, get2E_ev, gfK2_ok, gfK3_ok, geO_ok, asgN_ev, asgK_ok, asgT_ev, asgTK_ok, asgO_s, putE_ev, putK1_ok, putK2_ok, putK3_ok, putK4_ok, retE_ev, retK_ok, retN_ev, exprS_ev, exprK_ok, passS_ev, breakS_ev, contS_ev, ifS_ev, ifK_t, ifK_f, blkS_nil, blkS_cons, blkK_n, blkK_r, blkK_b, blkK_c, finK_r, finK_n, stT_nm, stT_tp, stTs_nil, stTs_cons, stO_s, Ev.add_int, Ev.sub_int, mul_intE, div_int, mod_intE, lt_intE, gt_intE, le_intE, ge_intE, eq_intE, ne_intE, eq_strE, ne_strE, eq_blE, ne_blE, is_nonE, is_blE, isnot_nonE, idx_lst, idx_tup, idx_refI, idx_refS, idx_dctI, idx_dctS, setL_lst, setL_str, ix4_0, ix4_1, ix4_2, ix4_3, fin_f, List.map, List.replicate, List.length_cons, List.length_nil, List.nil_append, List.cons_append, List.getElem?_cons_zero, List.getElem?_cons_succ, List.set_cons_zero, List.set_cons_succ, if_true, if_false, decide_true, decide_false, Bool.not_true, Bool.not_false, ite_true, ite_false, Ev.bi_len, lenO_s, bi_int, bi_intb, bi_abs, bi_min, bi_max, bi_gcd, bi_str, tr_bl, tr_int, Nat.sub_self, Nat.zero_add, Nat.reduceAdd, Nat.reduceSub, atI_0, atI_1, atI_2, atI_3, atI_4, Int.reduceNeg, Ev.pow_int, and_self, Bool.false_eq_true, reduceCtorEq, Option.bind_some, Option.bind_none, id_eq, Int.le_refl, Int.lt_irrefl, Int.reduceEq, Int.reduceNe, Int.reduceLT, Int.reduceLE, Int.reducePow, Int.reduceToNat, Int.reduceAbs, Nat.reducePow, Nat.reduceLT, Nat.reduceLeDiff, Nat.reduceEqDiff, Nat.reduceMul, wipe_3, hxi, hyi, h2, List.getElem?_eq_getElem h1, h3]
theorem sameA_non (hT : Has T "_law_same" 4 false b_law_sameA) : evCall T (k + 1) "_law_same" [.non, .non] L = .ok (.bl true) L := by
  rw [call_of hT]
  unfold b_law_sameA
  generalize c_law_sameA_2 = C2 at *
  generalize c_law_sameA_1 = C1 at *
  simp -implicitDefEqProofs only [varE_ev, cE_ev, argsE_nil, argsE_cons, aK1_ok, aK2_ok, tupE_ev, tupK_ok, lstE_ev, lstK_ok, dctE_ev, newL_t, newL_f, newD_t, newD_f, binE_ev, binK1_ok, binK2_ok, idxE_ev, idxK1_ok, idxK2_ok, cmpE_ev, cmpK1_ok, cmpK2_ok, optV_s, optB_s, testB_ev, testK_ok, truE_ev, truK_ok, truO_s, notT_ev, notK_ok, andT_ev, andK_t, andK_f, orT_ev, orK_t, orK_f, andE_ev, andV1_ok, andV2_t, andV2_f, orE_ev, orV1_ok, orV2_t, orV2_f, notE_ev, notV1_ok, notV2_s, negE_ev, negK_ok, ifE_ev, ifV_t, ifV_f, chainE_ev, chK1_ok, chK2_ok, chK3_t, chK3_f, chK4_ok, partE_ev, partK_ok, noE_ev, sliceE_ev, slK1_ok, slK2_ok, slK3_ok, callE_ev, callK_ok, biE_ev, biK_ok, appE_ev, apK2_ok, getE_ev, geK2_ok, get2E_ev, gfK2_ok, gfK3_ok, geO_ok, asgN_ev, asgK_ok, asgT_ev, asgTK_ok, asgO_s, putE_ev, putK1_ok, putK2_ok, putK3_ok, putK4_ok, retE_ev, retK_ok, retN_ev, exprS_ev, exprK_ok, passS_ev, breakS_ev, contS_ev, ifS_ev, ifK_t, ifK_f, blkS_nil, blkS_cons, blkK_n, blkK_r, blkK_b, blkK_c, finK_r, finK_n, stT_nm, stT_tp, stTs_nil, stTs_cons, stO_s, Ev.add_int, Ev.sub_int, mul_intE, div_int, mod_intE, lt_intE, gt_intE, le_intE, ge_intE, eq_intE, ne_intE, eq_strE, ne_strE, eq_blE, ne_blE, is_nonE, is_blE, isnot_nonE, idx_lst, idx_tup, idx_refI, idx_refS, idx_dctI, idx_dctS, setL_lst, setL_str, ix4_0, ix4_1, ix4_2, ix4_3, fin_f, List.map, List.replicate, List.length_cons, List.length_nil, List.nil_append, List.cons_append, List.getElem?_cons_zero, List.getElem?_cons_succ, List.set_cons_zero, List.set_cons_succ, if_true, if_false, decide_true, decide_false, Bool.not_true, Bool.not_false, ite_true, ite_false, Ev.bi_len, lenO_s, bi_int, bi_intb, bi_abs, bi_min, bi_max, bi_gcd, bi_str, tr_bl, tr_int, Nat.sub_self, Nat.zero_add, Nat.reduceAdd, Nat.reduceSub, atI_0, atI_1, atI_2, atI_3, atI_4, Int.reduceNeg, Ev.pow_int, and_self, Bool.false_eq_true, reduceCtorEq, Option.bind_some, Option.bind_none, id_eq, Int.le_refl, Int.lt_irrefl, Int.reduceEq, Int.reduceNe, Int.reduceLT, Int.reduceLE, Int.reducePow, Int.reduceToNat, Int.reduceAbs, Nat.reducePow, Nat.reduceLT, Nat.reduceLeDiff, Nat.reduceEqDiff, Nat.reduceMul, isi_non_dict, isi_non_list, isi_non_tuple, isi_non_str, isi_non_int, isi_non_bool, isi_bl_dict, isi_bl_list, isi_bl_tuple, isi_bl_str, isi_bl_int, isi_bl_bool, isi_int_dict, isi_int_list, isi_int_tuple, isi_int_str, isi_int_int, isi_int_bool, isi_str_dict, isi_str_list, isi_str_tuple, isi_str_str, isi_str_int, isi_str_bool, isi_tup_dict, isi_tup_list, isi_tup_tuple, isi_tup_str, isi_tup_int, isi_tup_bool, isi_lst_dict, isi_lst_list, isi_lst_tuple, isi_lst_str, isi_lst_int, isi_lst_bool, isi_dct_dict, isi_dct_list, isi_dct_tuple, isi_dct_str, isi_dct_int, isi_dct_bool, isb_int, isb_str, isb_tup, isb_lst, isb_dct, isb_ref, isb_non, isn_int, isn_str, isn_tup, isn_lst, isn_dct, isn_ref, isn_non, isn_bl]
theorem sameA_bl (hT : Has T "_law_same" 4 false b_law_sameA) (b : Bool) : evCall T (k + 1) "_law_same" [.bl b, .bl b] L = .ok (.bl true) L := by
  rw [call_of hT]
  unfold b_law_sameA
  generalize c_law_sameA_2 = C2 at *
  generalize c_law_sameA_1 = C1 at *
  cases b <;> simp -implicitDefEqProofs only [varE_ev, cE_ev, argsE_nil, argsE_cons, aK1_ok, aK2_ok, tupE_ev, tupK_ok, lstE_ev, lstK_ok, dctE_ev, newL_t, newL_f, newD_t, newD_f, binE_ev, binK1_ok, binK2_ok, idxE_ev, idxK1_ok, idxK2_ok, cmpE_ev, cmpK1_ok, cmpK2_ok, optV_s, optB_s, testB_ev, testK_ok, truE_ev, truK_ok, truO_s, notT_ev, notK_ok, andT_ev, andK_t, andK_f, orT_ev, orK_t, orK_f, andE_ev, andV1_ok, andV2_t, andV2_f, orE_ev, orV1_ok, orV2_t, orV2_f, notE_ev, notV1_ok, notV2_s, negE_ev, negK_ok, ifE_ev, ifV_t, ifV_f, chainE_ev, chK1_ok, chK2_ok, chK3_t, chK3_f, chK4_ok, partE_ev, partK_ok, noE_ev, sliceE_ev, slK1_ok, slK2_ok, slK3_ok, callE_ev, callK_ok, biE_ev, biK_ok, appE_ev, apK2_ok, getE_ev, geK2_ok, get2E_ev, gfK2_ok, gfK3_ok, geO_ok, asgN_ev, asgK_ok, asgT_ev, asgTK_ok, asgO_s, putE_ev, putK1_ok, putK2_ok, putK3_ok, putK4_ok, retE_ev, retK_ok, retN_ev, exprS_ev, exprK_ok, passS_ev, breakS_ev, contS_ev, ifS_ev, ifK_t, ifK_f, blkS_nil, blkS_cons, blkK_n, blkK_r, blkK_b, blkK_c, finK_r, finK_n, stT_nm, stT_tp, stTs_nil, stTs_cons, stO_s, Ev.add_int, Ev.sub_int, mul_intE, div_int, mod_intE, lt_intE, gt_intE, le_intE, ge_intE, eq_intE, ne_intE, eq_strE, ne_strE, eq_blE, ne_blE, is_nonE, is_blE, isnot_nonE, idx_lst, idx_tup, idx_refI, idx_refS, idx_dctI, idx_dctS, setL_lst, setL_str, ix4_0, ix4_1, ix4_2, ix4_3, fin_f, List.map, List.replicate, List.length_cons, List.length_nil, List.nil_append, List.cons_append, List.getElem?_cons_zero, List.getElem?_cons_succ, List.set_cons_zero, List.set_cons_succ, if_true, if_false, decide_true, decide_false, Bool.not_true, Bool.not_false, ite_true, ite_false, Ev.bi_len, lenO_s, bi_int, bi_intb, bi_abs, bi_min, bi_max, bi_gcd, bi_str, tr_bl, tr_int, Nat.sub_self, Nat.zero_add, Nat.reduceAdd, Nat.reduceSub, atI_0, atI_1, atI_2, atI_3, atI_4, Int.reduceNeg, Ev.pow_int, and_self, Bool.false_eq_true, reduceCtorEq, Option.bind_some, Option.bind_none, id_eq, Int.le_refl, Int.lt_irrefl, Int.reduceEq, Int.reduceNe, Int.reduceLT, Int.reduceLE, Int.reducePow, Int.reduceToNat, Int.reduceAbs, Nat.reducePow, Nat.reduceLT, Nat.reduceLeDiff, Nat.reduceEqDiff, Nat.reduceMul, isi_non_dict, isi_non_list, isi_non_tuple, isi_non_str, isi_non_int, isi_non_bool, isi_bl_dict, isi_bl_list, isi_bl_tuple, isi_bl_str, isi_bl_int, isi_bl_bool, isi_int_dict, isi_int_list, isi_int_tuple, isi_int_str, isi_int_int, isi_int_bool, isi_str_dict, isi_str_list, isi_str_tuple, isi_str_str, isi_str_int, isi_str_bool, isi_tup_dict, isi_tup_list, isi_tup_tuple, isi_tup_str, isi_tup_int, isi_tup_bool, isi_lst_dict, isi_lst_list, isi_lst_tuple, isi_lst_str, isi_lst_int, isi_lst_bool, isi_dct_dict, isi_dct_list, isi_dct_tuple, isi_dct_str, isi_dct_int, isi_dct_bool, isb_int, isb_str, isb_tup, isb_lst, isb_dct, isb_ref, isb_non, isn_int, isn_str, isn_tup, isn_lst, isn_dct, isn_ref, isn_non, isn_bl]
theorem sameA_int (hT : Has T "_law_same" 4 false b_law_sameA) (i : Int) : evCall T (k + 1) "_law_same" [.int i, .int i] L = .ok (.bl true) L := by
  rw [call_of hT]
  unfold b_law_sameA
  generalize c_law_sameA_2 = C2 at *
  generalize c_law_sameA_1 = C1 at *
  simp -implicitDefEqProofs only [varE_ev, cE_ev, argsE_nil, argsE_cons, aK1_ok, aK2_ok, tupE_ev, tupK_ok, lstE_ev, lstK_ok, dctE_ev, newL_t, newL_f, newD_t, newD_f, binE_ev, binK1_ok, binK2_ok, idxE_ev, idxK1_ok, idxK2_ok, cmpE_ev, cmpK1_ok, cmpK2_ok, optV_s, optB_s, testB_ev, testK_ok, truE_ev, truK_ok, truO_s, notT_ev, notK_ok, andT_ev, andK_t, andK_f, orT_ev, orK_t, orK_f, andE_ev, andV1_ok, andV2_t, andV2_f, orE_ev, orV1_ok, orV2_t, orV2_f, notE_ev, notV1_ok, notV2_s, negE_ev, negK_ok, ifE_ev, ifV_t, ifV_f, chainE_ev, chK1_ok, chK2_ok, chK3_t, chK3_f, chK4_ok, partE_ev, partK_ok, noE_ev, sliceE_ev, slK1_ok, slK2_ok, slK3_ok, callE_ev, callK_ok, biE_ev, biK_ok, appE_ev, apK2_ok, getE_ev, geK2_ok, get2E_ev, gfK2_ok, gfK3_ok, geO_ok, asgN_ev, asgK_ok, asgT_ev, asgTK_ok, asgO_s, putE_ev, putK1_ok, putK2_ok, putK3_ok, putK4_ok, retE_ev, retK_ok, retN_ev, exprS_ev, exprK_ok, passS_ev, breakS_ev, contS_ev, ifS_ev, ifK_t, ifK_f, blkS_nil, blkS_cons, blkK_n, blkK_r, blkK_b, blkK_c, finK_r, finK_n, stT_nm, stT_tp, stTs_nil, stTs_cons, stO_s, Ev.add_int, Ev.sub_int, mul_intE, div_int, mod_intE, lt_intE, gt_intE, le_intE, ge_intE, eq_intE, ne_intE, eq_strE, ne_strE, eq_blE, ne_blE, is_nonE, is_blE, isnot_nonE, idx_lst, idx_tup, idx_refI, idx_refS, idx_dctI, idx_dctS, setL_lst, setL_str, ix4_0, ix4_1, ix4_2, ix4_3, fin_f, List.map, List.replicate, List.length_cons, List.length_nil, List.nil_append, List.cons_append, List.getElem?_cons_zero, List.getElem?_cons_succ, List.set_cons_zero, List.set_cons_succ, if_true, if_false, decide_true, decide_false, Bool.not_true, Bool.not_false, ite_true, ite_false, Ev.bi_len, lenO_s, bi_int, bi_intb, bi_abs, bi_min, bi_max, bi_gcd, bi_str, tr_bl, tr_int, Nat.sub_self, Nat.zero_add, Nat.reduceAdd, Nat.reduceSub, atI_0, atI_1, atI_2, atI_3, atI_4, Int.reduceNeg, Ev.pow_int, and_self, Bool.false_eq_true, reduceCtorEq, Option.bind_some, Option.bind_none, id_eq, Int.le_refl, Int.lt_irrefl, Int.reduceEq, Int.reduceNe, Int.reduceLT, Int.reduceLE, Int.reducePow, Int.reduceToNat, Int.reduceAbs, Nat.reducePow, Nat.reduceLT, Nat.reduceLeDiff, Nat.reduceEqDiff, Nat.reduceMul, isi_non_dict, isi_non_list, isi_non_tuple, isi_non_str, isi_non_int, isi_non_bool, isi_bl_dict, isi_bl_list, isi_bl_tuple, isi_bl_str, isi_bl_int, isi_bl_bool, isi_int_dict, isi_int_list, isi_int_tuple, isi_int_str, isi_int_int, isi_int_bool, isi_str_dict, isi_str_list, isi_str_tuple, isi_str_str, isi_str_int, isi_str_bool, isi_tup_dict, isi_tup_list, isi_tup_tuple, isi_tup_str, isi_tup_int, isi_tup_bool, isi_lst_dict, isi_lst_list, isi_lst_tuple, isi_lst_str, isi_lst_int, isi_lst_bool, isi_dct_dict, isi_dct_list, isi_dct_tuple, isi_dct_str, isi_dct_int, isi_dct_bool, isb_int, isb_str, isb_tup, isb_lst, isb_dct, isb_ref, isb_non, isn_int, isn_str, isn_tup, isn_lst, isn_dct, isn_ref, isn_non, isn_bl]
theorem sameA_str (hT : Has T "_law_same" 4 false b_law_sameA) (i : Str) : evCall T (k + 1) "_law_same" [.str i, .str i] L = .ok (.bl true) L := by
  rw [call_of hT]
  unfold b_law_sameA
  generalize c_law_sameA_2 = C2 at *
  generalize c_law_sameA_1 = C1 at *
  simp -implicitDefEqProofs only [varE_ev, cE_ev, argsE_nil, argsE_cons, aK1_ok, aK2_ok, tupE_ev, tupK_ok, lstE_ev, lstK_ok, dctE_ev, newL_t, newL_f, newD_t, newD_f, binE_ev, binK1_ok, binK2_ok, idxE_ev, idxK1_ok, idxK2_ok, cmpE_ev, cmpK1_ok, cmpK2_ok, optV_s, optB_s, testB_ev, testK_ok, truE_ev, truK_ok, truO_s, notT_ev, notK_ok, andT_ev, andK_t, andK_f, orT_ev, orK_t, orK_f, andE_ev, andV1_ok, andV2_t, andV2_f, orE_ev, orV1_ok, orV2_t, orV2_f, notE_ev, notV1_ok, notV2_s, negE_ev, negK_ok, ifE_ev, ifV_t, ifV_f, chainE_ev, chK1_ok, chK2_ok, chK3_t, chK3_f, chK4_ok, partE_ev, partK_ok, noE_ev, sliceE_ev, slK1_ok, slK2_ok, slK3_ok, callE_ev, callK_ok, biE_ev, biK_ok, appE_ev, apK2_ok, getE_ev, geK2_ok, get2E_ev, gfK2_ok, gfK3_ok, geO_ok, asgN_ev, asgK_ok, asgT_ev, asgTK_ok, asgO_s, putE_ev, putK1_ok, putK2_ok, putK3_ok, putK4_ok, retE_ev, retK_ok, retN_ev, exprS_ev, exprK_ok, passS_ev, breakS_ev, contS_ev, ifS_ev, ifK_t, ifK_f, blkS_nil, blkS_cons, blkK_n, blkK_r, blkK_b, blkK_c, finK_r, finK_n, stT_nm, stT_tp, stTs_nil, stTs_cons, stO_s, Ev.add_int, Ev.sub_int, mul_intE, div_int, mod_intE, lt_intE, gt_intE, le_intE, ge_intE, eq_intE, ne_intE, eq_strE, ne_strE, eq_blE, ne_blE, is_nonE, is_blE, isnot_nonE, idx_lst, idx_tup, idx_refI, idx_refS, idx_dctI, idx_dctS, setL_lst, setL_str, ix4_0, ix4_1, ix4_2, ix4_3, fin_f, List.map, List.replicate, List.length_cons, List.length_nil, List.nil_append, List.cons_append, List.getElem?_cons_zero, List.getElem?_cons_succ, List.set_cons_zero, List.set_cons_succ, if_true, if_false, decide_true, decide_false, Bool.not_true, Bool.not_false, ite_true, ite_false, Ev.bi_len, lenO_s, bi_int, bi_intb, bi_abs, bi_min, bi_max, bi_gcd, bi_str, tr_bl, tr_int, Nat.sub_self, Nat.zero_add, Nat.reduceAdd, Nat.reduceSub, atI_0, atI_1, atI_2, atI_3, atI_4, Int.reduceNeg, Ev.pow_int, and_self, Bool.false_eq_true, reduceCtorEq, Option.bind_some, Option.bind_none, id_eq, Int.le_refl, Int.lt_irrefl, Int.reduceEq, Int.reduceNe, Int.reduceLT, Int.reduceLE, Int.reducePow, Int.reduceToNat, Int.reduceAbs, Nat.reducePow, Nat.reduceLT, Nat.reduceLeDiff, Nat.reduceEqDiff, Nat.reduceMul, isi_non_dict, isi_non_list, isi_non_tuple, isi_non_str, isi_non_int, isi_non_bool, isi_bl_dict, isi_bl_list, isi_bl_tuple, isi_bl_str, isi_bl_int, isi_bl_bool, isi_int_dict, isi_int_list, isi_int_tuple, isi_int_str, isi_int_int, isi_int_bool, isi_str_dict, isi_str_list, isi_str_tuple, isi_str_str, isi_str_int, isi_str_bool, isi_tup_dict, isi_tup_list, isi_tup_tuple, isi_tup_str, isi_tup_int, isi_tup_bool, isi_lst_dict, isi_lst_list, isi_lst_tuple, isi_lst_str, isi_lst_int, isi_lst_bool, isi_dct_dict, isi_dct_list, isi_dct_tuple, isi_dct_str, isi_dct_int, isi_dct_bool, isb_int, isb_str, isb_tup, isb_lst, isb_dct, isb_ref, isb_non, isn_int, isn_str, isn_tup, isn_lst, isn_dct, isn_ref, isn_non, isn_bl]
theorem sameA_tup (hT : Has T "_law_same" 4 false b_law_sameA) {xs ys : List LV} (hl : ys.length = xs.length) (c : c_law_sameA_2 (evCall T k) [some (.tup xs), some (.tup ys), none, none] L = .ok (.lst (List.replicate ys.length (.bl true))) L) : evCall T (k + 1) "_law_same" [.tup xs, .tup ys] L = .ok (.bl true) L := by
  rw [call_of hT]
  unfold b_law_sameA
  generalize c_law_sameA_2 = C2 at *
  generalize c_law_sameA_1 = C1 at *
  simp -implicitDefEqProofs only [varE_ev, cE_ev, argsE_nil, argsE_cons, aK1_ok, aK2_ok, tupE_ev, tupK_ok, lstE_ev, lstK_ok, dctE_ev, newL_t, newL_f, newD_t, newD_f, binE_ev, binK1_ok, binK2_ok, idxE_ev, idxK1_ok, idxK2_ok, cmpE_ev, cmpK1_ok, cmpK2_ok, optV_s, optB_s, testB_ev, testK_ok, truE_ev, truK_ok, truO_s, notT_ev, notK_ok, andT_ev, andK_t, andK_f, orT_ev, orK_t, orK_f, andE_ev, andV1_ok, andV2_t, andV2_f, orE_ev, orV1_ok, orV2_t, orV2_f, notE_ev, notV1_ok, notV2_s, negE_ev, negK_ok, ifE_ev, ifV_t, ifV_f, chainE_ev, chK1_ok, chK2_ok, chK3_t, chK3_f, chK4_ok, partE_ev, partK_ok, noE_ev, sliceE_ev, slK1_ok, slK2_ok, slK3_ok, callE_ev, callK_ok, biE_ev, biK_ok, appE_ev, apK2_ok, getE_ev, geK2_ok, get2E_ev, gfK2_ok, gfK3_ok, geO_ok, asgN_ev, asgK_ok, asgT_ev, asgTK_ok, asgO_s, putE_ev, putK1_ok, putK2_ok, putK3_ok, putK4_ok, retE_ev, retK_ok, retN_ev, exprS_ev, exprK_ok, passS_ev, breakS_ev, contS_ev, ifS_ev, ifK_t, ifK_f, blkS_nil, blkS_cons, blkK_n, blkK_r, blkK_b, blkK_c, finK_r, finK_n, stT_nm, stT_tp, stTs_nil, stTs_cons, stO_s, Ev.add_int, Ev.sub_int, mul_intE, div_int, mod_intE, lt_intE, gt_intE, le_intE, ge_intE, eq_intE, ne_intE, eq_strE, ne_strE, eq_blE, ne_blE, is_nonE, is_blE, isnot_nonE, idx_lst, idx_tup, idx_refI, idx_refS, idx_dctI, idx_dctS, setL_lst, setL_str, ix4_0, ix4_1, ix4_2, ix4_3, fin_f, List.map, List.replicate, List.length_cons, List.length_nil, List.nil_append, List.cons_append, List.getElem?_cons_zero, List.getElem?_cons_succ, List.set_cons_zero, List.set_cons_succ, if_true, if_false, decide_true, decide_false, Bool.not_true, Bool.not_false, ite_true, ite_false, Ev.bi_len, lenO_s, bi_int, bi_intb, bi_abs, bi_min, bi_max, bi_gcd, bi_str, tr_bl, tr_int, Nat.sub_self, Nat.zero_add, Nat.reduceAdd, Nat.reduceSub, atI_0, atI_1, atI_2, atI_3, atI_4, Int.reduceNeg, Ev.pow_int, and_self, Bool.false_eq_true, reduceCtorEq, Option.bind_some, Option.bind_none, id_eq, Int.le_refl, Int.lt_irrefl, Int.reduceEq, Int.reduceNe, Int.reduceLT, Int.reduceLE, Int.reducePow, Int.reduceToNat, Int.reduceAbs, Nat.reducePow, Nat.reduceLT, Nat.reduceLeDiff, Nat.reduceEqDiff, Nat.reduceMul, isi_non_dict, isi_non_list, isi_non_tuple, isi_non_str, isi_non_int, isi_non_bool, isi_bl_dict, isi_bl_list, isi_bl_tuple, isi_bl_str, isi_bl_int, isi_bl_bool, isi_int_dict, isi_int_list, isi_int_tuple, isi_int_str, isi_int_int, isi_int_bool, isi_str_dict, isi_str_list, isi_str_tuple, isi_str_str, isi_str_int, isi_str_bool, isi_tup_dict, isi_tup_list, isi_tup_tuple, isi_tup_str, isi_tup_int, isi_tup_bool, isi_lst_dict, isi_lst_list, isi_lst_tuple, isi_lst_str, isi_lst_int, isi_lst_bool, isi_dct_dict, isi_dct_list, isi_dct_tuple, isi_dct_str, isi_dct_int, isi_dct_bool, isb_int, isb_str, isb_tup, isb_lst, isb_dct, isb_ref, isb_non, isn_int, isn_str, isn_tup, isn_lst, isn_dct, isn_ref, isn_non, isn_bl, len_tup, c, bi_allT, bne_self_eq_false, BEq.rfl, hl]
theorem sameA_lst (hT : Has T "_law_same" 4 false b_law_sameA) {xs ys : List LV} (hl : ys.length = xs.length) (c : c_law_sameA_2 (evCall T k) [some (.lst xs), some (.lst ys), none, none] L = .ok (.lst (List.replicate ys.length (.bl true))) L) : evCall T (k + 1) "_law_same" [.lst xs, .lst ys] L = .ok (.bl true) L := by
  rw [call_of hT]
  unfold b_law_sameA
  generalize c_law_sameA_2 = C2 at *
  generalize c_law_sameA_1 = C1 at *
  simp -implicitDefEqProofs only [varE_ev, cE_ev, argsE_nil, argsE_cons, aK1_ok, aK2_ok, tupE_ev, tupK_ok, lstE_ev, lstK_ok, dctE_ev, newL_t, newL_f, newD_t, newD_f, binE_ev, binK1_ok, binK2_ok, idxE_ev, idxK1_ok, idxK2_ok, cmpE_ev, cmpK1_ok, cmpK2_ok, optV_s, optB_s, testB_ev, testK_ok, truE_ev, truK_ok, truO_s, notT_ev, notK_ok, andT_ev, andK_t, andK_f, orT_ev, orK_t, orK_f, andE_ev, andV1_ok, andV2_t, andV2_f, orE_ev, orV1_ok, orV2_t, orV2_f, notE_ev, notV1_ok, notV2_s, negE_ev, negK_ok, ifE_ev, ifV_t, ifV_f, chainE_ev, chK1_ok, chK2_ok, chK3_t, chK3_f, chK4_ok, partE_ev, partK_ok, noE_ev, sliceE_ev, slK1_ok, slK2_ok, slK3_ok, callE_ev, callK_ok, biE_ev, biK_ok, appE_ev, apK2_ok, getE_ev, geK2_ok, get2E_ev, gfK2_ok, gfK3_ok, geO_ok, asgN_ev, asgK_ok, asgT_ev, asgTK_ok, asgO_s, putE_ev, putK1_ok, putK2_ok, putK3_ok, putK4_ok, retE_ev, retK_ok, retN_ev, exprS_ev, exprK_ok, passS_ev, breakS_ev, contS_ev, ifS_ev, ifK_t, ifK_f, blkS_nil, blkS_cons, blkK_n, blkK_r, blkK_b, blkK_c, finK_r, finK_n, stT_nm, stT_tp, stTs_nil, stTs_cons, stO_s, Ev.add_int, Ev.sub_int, mul_intE, div_int, mod_intE, lt_intE, gt_intE, le_intE, ge_intE, eq_intE, ne_intE, eq_strE, ne_strE, eq_blE, ne_blE, is_nonE, is_blE, isnot_nonE, idx_lst, idx_tup, idx_refI, idx_refS, idx_dctI, idx_dctS, setL_lst, setL_str, ix4_0, ix4_1, ix4_2, ix4_3, fin_f, List.map, List.replicate, List.length_cons, List.length_nil, List.nil_append, List.cons_append, List.getElem?_cons_zero, List.getElem?_cons_succ, List.set_cons_zero, List.set_cons_succ, if_true, if_false, decide_true, decide_false, Bool.not_true, Bool.not_false, ite_true, ite_false, Ev.bi_len, lenO_s, bi_int, bi_intb, bi_abs, bi_min, bi_max, bi_gcd, bi_str, tr_bl, tr_int, Nat.sub_self, Nat.zero_add, Nat.reduceAdd, Nat.reduceSub, atI_0, atI_1, atI_2, atI_3, atI_4, Int.reduceNeg, Ev.pow_int, and_self, Bool.false_eq_true, reduceCtorEq, Option.bind_some, Option.bind_none, id_eq, Int.le_refl, Int.lt_irrefl, Int.reduceEq, Int.reduceNe, Int.reduceLT, Int.reduceLE, Int.reducePow, Int.reduceToNat, Int.reduceAbs, Nat.reducePow, Nat.reduceLT, Nat.reduceLeDiff, Nat.reduceEqDiff, Nat.reduceMul, isi_non_dict, isi_non_list, isi_non_tuple, isi_non_str, isi_non_int, isi_non_bool, isi_bl_dict, isi_bl_list, isi_bl_tuple, isi_bl_str, isi_bl_int, isi_bl_bool, isi_int_dict, isi_int_list, isi_int_tuple, isi_int_str, isi_int_int, isi_int_bool, isi_str_dict, isi_str_list, isi_str_tuple, isi_str_str, isi_str_int, isi_str_bool, isi_tup_dict, isi_tup_list, isi_tup_tuple, isi_tup_str, isi_tup_int, isi_tup_bool, isi_lst_dict, isi_lst_list, isi_lst_tuple, isi_lst_str, isi_lst_int, isi_lst_bool, isi_dct_dict, isi_dct_list, isi_dct_tuple, isi_dct_str, isi_dct_int, isi_dct_bool, isb_int, isb_str, isb_tup, isb_lst, isb_dct, isb_ref, isb_non, isn_int, isn_str, isn_tup, isn_lst, isn_dct, isn_ref, isn_non, isn_bl, len_lst, c, bi_allT, bne_self_eq_false, BEq.rfl, hl]
theorem sameA_dd (hT : Has T "_law_same" 4 false b_law_sameA) {kvs : List (DK × LV)} (hk : kDict kvs = true) (c : c_law_sameA_1 (evCall T k) [some (.dct kvs), some (.dct kvs), none, none] L = .ok (.lst (List.replicate kvs.length (.bl true))) L) : evCall T (k + 1) "_law_same" [.dct kvs, .dct kvs] L = .ok (.bl true) L := by
  rw [call_of hT]
  unfold b_law_sameA
  generalize c_law_sameA_2 = C2 at *
  generalize c_law_sameA_1 = C1 at *
  simp -implicitDefEqProofs only [varE_ev, cE_ev, argsE_nil, argsE_cons, aK1_ok, aK2_ok, tupE_ev, tupK_ok, lstE_ev, lstK_ok, dctE_ev, newL_t, newL_f, newD_t, newD_f, binE_ev, binK1_ok, binK2_ok, idxE_ev, idxK1_ok, idxK2_ok, cmpE_ev, cmpK1_ok, cmpK2_ok, optV_s, optB_s, testB_ev, testK_ok, truE_ev, truK_ok, truO_s, notT_ev, notK_ok, andT_ev, andK_t, andK_f, orT_ev, orK_t, orK_f, andE_ev, andV1_ok, andV2_t, andV2_f, orE_ev, orV1_ok, orV2_t, orV2_f, notE_ev, notV1_ok, notV2_s, negE_ev, negK_ok, ifE_ev, ifV_t, ifV_f, chainE_ev, chK1_ok, chK2_ok, chK3_t, chK3_f, chK4_ok, partE_ev, partK_ok, noE_ev, sliceE_ev, slK1_ok, slK2_ok, slK3_ok, callE_ev, callK_ok, biE_ev, biK_ok, appE_ev, apK2_ok, getE_ev, geK2_ok, get2E_ev, gfK2_ok, gfK3_ok, geO_ok, asgN_ev, asgK_ok, asgT_ev, asgTK_ok, asgO_s, putE_ev, putK1_ok, putK2_ok, putK3_ok, putK4_ok, retE_ev, retK_ok, retN_ev, exprS_ev, exprK_ok, passS_ev, breakS_ev, contS_ev, ifS_ev, ifK_t, ifK_f, blkS_nil, blkS_cons, blkK_n, blkK_r, blkK_b, blkK_c, finK_r, finK_n, stT_nm, stT_tp, stTs_nil, stTs_cons, stO_s, Ev.add_int, Ev.sub_int, mul_intE, div_int, mod_intE, lt_intE, gt_intE, le_intE, ge_intE, eq_intE, ne_intE, eq_strE, ne_strE, eq_blE, ne_blE, is_nonE, is_blE, isnot_nonE, idx_lst, idx_tup, idx_refI, idx_refS, idx_dctI, idx_dctS, setL_lst, setL_str, ix4_0, ix4_1, ix4_2, ix4_3, fin_f, List.map, List.replicate, List.length_cons, List.length_nil, List.nil_append, List.cons_append, List.getElem?_cons_zero, List.getElem?_cons_succ, List.set_cons_zero, List.set_cons_succ, if_true, if_false, decide_true, decide_false, Bool.not_true, Bool.not_false, ite_true, ite_false, Ev.bi_len, lenO_s, bi_int, bi_intb, bi_abs, bi_min, bi_max, bi_gcd, bi_str, tr_bl, tr_int, Nat.sub_self, Nat.zero_add, Nat.reduceAdd, Nat.reduceSub, atI_0, atI_1, atI_2, atI_3, atI_4, Int.reduceNeg, Ev.pow_int, and_self, Bool.false_eq_true, reduceCtorEq, Option.bind_some, Option.bind_none, id_eq, Int.le_refl, Int.lt_irrefl, Int.reduceEq, Int.reduceNe, Int.reduceLT, Int.reduceLE, Int.reducePow, Int.reduceToNat, Int.reduceAbs, Nat.reducePow, Nat.reduceLT, Nat.reduceLeDiff, Nat.reduceEqDiff, Nat.reduceMul, isi_dct_dict, len_dct hk, hk, c, bi_allT, bne_self_eq_false]
theorem sameA_refl (hT : Has T "_law_same" 4 false b_law_sameA) : ∀ (n : Nat) {x : LV}, Dat n x → ∀ (k : Nat) (L : List LO), evCall T (k + n + 1) "_law_same" [x, x] L = .ok (.bl true) L := by
  intro n x h
  induction h with
  | non => intro k L; exact sameA_non hT
  | bl b => intro k L; exact sameA_bl hT b
  | int i => intro k L; exact sameA_int hT i
  | str z => intro k L; exact sameA_str hT z
  | @tup n xs h hl ih =>
    intro k L
    have c := sameA_c2 (cb := evCall T (k + n + 1)) (L := L) (x := .tup xs) (y := .tup xs) (a := xs) (b := xs) rfl len_tup rfl len_tup (fun i => by rw [idx_tup, atI_nat]) (fun i => by rw [idx_tup, atI_nat]) hl (fun i v hv => ⟨v, hv, ih v (List.mem_of_getElem? hv) k L⟩) rfl
    exact sameA_tup hT rfl c
  | @lst n xs h hl ih =>
    intro k L
    have c := sameA_c2 (cb := evCall T (k + n + 1)) (L := L) (x := .lst xs) (y := .lst xs) (a := xs) (b := xs) rfl len_lst rfl len_lst (fun i => by rw [idx_lst, atI_nat]) (fun i => by rw [idx_lst, atI_nat]) hl (fun i v hv => ⟨v, hv, ih v (List.mem_of_getElem? hv) k L⟩) rfl
    exact sameA_lst hT rfl c
  | @dct n kvs h hk hn hl ih =>
    intro k L
    have c : c_law_sameA_1 (evCall T (k + n + 1)) [some (.dct kvs), some (.dct kvs), none, none] L = .ok (.lst (List.replicate kvs.length (.bl true))) L := by
      unfold c_law_sameA_1
      rw [lcN_dct rfl hk]
      exact sameA_c1 (x := .dct kvs) (y := .dct kvs) rfl hk rfl hk hl (fun q hq => ⟨q.2, dget_mem hn hq, dget_mem hn hq, ih q hq k L⟩) rfl
    exact sameA_dd hT hk c
/-- a dict, in any order: the answer x an object or a tree, the due one a tree -/
theorem sameA_dct (hT : Has T "_law_same" 4 false b_law_sameA) {x : LV} {a b : List (DK × LV)} (hx : dctOf L x = some a) (hxi : biL .isi false [x, .ty "dict"] L = .ok (.bl true) L) (hxl : lenL L x = some a.length) (ha : kDict a = true) (hb : kDict b = true) (hbs : b.length ≤ 1000) (hl : a.length = b.length)
    (h : ∀ q ∈ b, dget a q.1 = some q.2 ∧ dget b q.1 = some q.2 ∧ Dat n q.2) : evCall T (k + n + 2) "_law_same" [x, .dct b] L = .ok (.bl true) L := by
  have c : c_law_sameA_1 (evCall T (k + n + 1)) [some x, some (.dct b), none, none] L = .ok (.lst (List.replicate b.length (.bl true))) L := by
    unfold c_law_sameA_1
    rw [lcN_dct rfl hb]
    exact sameA_c1 (y := .dct b) hx ha rfl hb hbs (fun q hq => ⟨q.2, (h q hq).1, (h q hq).2.1, sameA_refl hT n (h q hq).2.2 k L⟩) rfl
  rw [call_of hT]
  unfold b_law_sameA
  generalize c_law_sameA_2 = C2 at *
  generalize c_law_sameA_1 = C1 at *
  simp -implicitDefEqProofs only [varE_ev, cE_ev, argsE_nil, argsE_cons, aK1_ok, aK2_ok, tupE_ev, tupK_ok, lstE_ev, lstK_ok, dctE_ev, newL_t, newL_f, newD_t, newD_f, binE_ev, binK1_ok, binK2_ok, idxE_ev, idxK1_ok, idxK2_ok, cmpE_ev, cmpK1_ok, cmpK2_ok, optV_s, optB_s, testB_ev, testK_ok, truE_ev, truK_ok, truO_s, notT_ev, notK_ok, andT_ev, andK_t, andK_f, orT_ev, orK_t, orK_f, andE_ev, andV1_ok, andV2_t, andV2_f, orE_ev, orV1_ok, orV2_t, orV2_f, notE_ev, notV1_ok, notV2_s, negE_ev, negK_ok, ifE_ev, ifV_t, ifV_f, chainE_ev, chK1_ok, chK2_ok, chK3_t, chK3_f, chK4_ok, partE_ev, partK_ok, noE_ev, sliceE_ev, slK1_ok, slK2_ok, slK3_ok, callE_ev, callK_ok, biE_ev, biK_ok, appE_ev, apK2_ok, getE_ev, geK2_ok, get2E_ev, gfK2_ok, gfK3_ok, geO_ok, asgN_ev, asgK_ok, asgT_ev, asgTK_ok, asgO_s, putE_ev, putK1_ok, putK2_ok, putK3_ok, putK4_ok, retE_ev, retK_ok, retN_ev, exprS_ev, exprK_ok, passS_ev, breakS_ev, contS_ev, ifS_ev, ifK_t, ifK_f, blkS_nil, blkS_cons, blkK_n, blkK_r, blkK_b, blkK_c, finK_r, finK_n, stT_nm, stT_tp, stTs_nil, stTs_cons, stO_s, Ev.add_int, Ev.sub_int, mul_intE, div_int, mod_intE, lt_intE, gt_intE, le_intE, ge_intE, eq_intE, ne_intE, eq_strE, ne_strE, eq_blE, ne_blE, is_nonE, is_blE, isnot_nonE, idx_lst, idx_tup, idx_refI, idx_refS, idx_dctI, idx_dctS, setL_lst, setL_str, ix4_0, ix4_1, ix4_2, ix4_3, fin_f, List.map, List.replicate, List.length_cons, List.length_nil, List.nil_append, List.cons_append, List.getElem?_cons_zero, List.getElem?_cons_succ, List.set_cons_zero, List.set_cons_succ, if_true, if_false, decide_true, decide_false, Bool.not_true, Bool.not_false, ite_true, ite_false, Ev.bi_len, lenO_s, bi_int, bi_intb, bi_abs, bi_min, bi_max, bi_gcd, bi_str, tr_bl, tr_int, Nat.sub_self, Nat.zero_add, Nat.reduceAdd, Nat.reduceSub, atI_0, atI_1, atI_2, atI_3, atI_4, Int.reduceNeg, Ev.pow_int, and_self, Bool.false_eq_true, reduceCtorEq, Option.bind_some, Option.bind_none, id_eq, Int.le_refl, Int.lt_irrefl, Int.reduceEq, Int.reduceNe, Int.reduceLT, Int.reduceLE, Int.reducePow, Int.reduceToNat, Int.reduceAbs, Nat.reducePow, Nat.reduceLT, Nat.reduceLeDiff, Nat.reduceEqDiff, Nat.reduceMul, isi_non_dict, isi_non_list, isi_non_tuple, isi_non_str, isi_non_int, isi_non_bool, isi_bl_dict, isi_bl_list, isi_bl_tuple, isi_bl_str, isi_bl_int, isi_bl_bool, isi_int_dict, isi_int_list, isi_int_tuple, isi_int_str, isi_int_int, isi_int_bool, isi_str_dict, isi_str_list, isi_str_tuple, isi_str_str, isi_str_int, isi_str_bool, isi_tup_dict, isi_tup_list, isi_tup_tuple, isi_tup_str, isi_tup_int, isi_tup_bool, isi_lst_dict, isi_lst_list, isi_lst_tuple, isi_lst_str, isi_lst_int, isi_lst_bool, isi_dct_dict, isi_dct_list, isi_dct_tuple, isi_dct_str, isi_dct_int, isi_dct_bool, isb_int, isb_str, isb_tup, isb_lst, isb_dct, isb_ref, isb_non, isn_int, isn_str, isn_tup, isn_lst, isn_dct, isn_ref, isn_non, isn_bl, len_dct hb, hb, c, bi_allT, bne_self_eq_false, hxi, hxl, hl]
/-- .. the due one an object -/
theorem sameA_dref (hT : Has T "_law_same" 4 false b_law_sameA) {x : LV} {d : Nat} {a b : List (DK × LV)} (hd : L[d]? = some (.dct b)) (hx : dctOf (L.set d (.lkd b)) x = some a) (hxi : biL .isi false [x, .ty "dict"] L = .ok (.bl true) L) (hxl : lenL L x = some a.length) (ha : kDict a = true) (hb : kDict b = true) (hbs : b.length ≤ 1000) (hl : a.length = b.length)
    (h : ∀ q ∈ b, dget a q.1 = some q.2 ∧ dget b q.1 = some q.2 ∧ Dat n q.2) : evCall T (k + n + 2) "_law_same" [x, .ref d] L = .ok (.bl true) L := by
  have hdl := (List.getElem?_eq_some_iff.mp hd).1
  have c : c_law_sameA_1 (evCall T (k + n + 1)) [some x, some (.ref d), none, none] L = .ok (.lst (List.replicate b.length (.bl true))) L := by
    unfold c_law_sameA_1
    rw [lcN_dref rfl hd hb, sameA_c1 (L := L.set d (.lkd b)) (y := .ref d) hx ha (by unfold dctOf; dsimp only; rw [List.getElem?_set_self hdl]) hb hbs (fun q hq => ⟨q.2, (h q hq).1, (h q hq).2.1, sameA_refl hT n (h q hq).2.2 k _⟩) rfl]
    unfold unl
    rw [Res.bind_ok, List.getElem?_set_self hdl]
    dsimp only
    rw [List.set_set, show L.set d (.dct b) = L from by
      apply List.ext_getElem?
      intro i
      by_cases hi : d = i
      · subst hi; rw [List.getElem?_set_self hdl, hd]
      · rw [List.getElem?_set_ne hi]]
  rw [call_of hT]
  unfold b_law_sameA
  generalize c_law_sameA_2 = C2 at *
  generalize c_law_sameA_1 = C1 at *
  simp -implicitDefEqProofs only [varE_ev, cE_ev, argsE_nil, argsE_cons, aK1_ok, aK2_ok, tupE_ev, tupK_ok, lstE_ev, lstK_ok, dctE_ev, newL_t, newL_f, newD_t, newD_f, binE_ev, binK1_ok, binK2_ok, idxE_ev, idxK1_ok, idxK2_ok, cmpE_ev, cmpK1_ok, cmpK2_ok, optV_s, optB_s, testB_ev, testK_ok, truE_ev, truK_ok, truO_s, notT_ev, notK_ok, andT_ev, andK_t, andK_f, orT_ev, orK_t, orK_f, andE_ev, andV1_ok, andV2_t, andV2_f, orE_ev, orV1_ok, orV2_t, orV2_f, notE_ev, notV1_ok, notV2_s, negE_ev, negK_ok, ifE_ev, ifV_t, ifV_f, chainE_ev, chK1_ok, chK2_ok, chK3_t, chK3_f, chK4_ok, partE_ev, partK_ok, noE_ev, sliceE_ev, slK1_ok, slK2_ok, slK3_ok, callE_ev, callK_ok, biE_ev, biK_ok, appE_ev, apK2_ok, getE_ev, geK2_ok, get2E_ev, gfK2_ok, gfK3_ok, geO_ok, asgN_ev, asgK_ok, asgT_ev, asgTK_ok, asgO_s, putE_ev, putK1_ok, putK2_ok, putK3_ok, putK4_ok, retE_ev, retK_ok, retN_ev, exprS_ev, exprK_ok, passS_ev, breakS_ev, contS_ev, ifS_ev, ifK_t, ifK_f, blkS_nil, blkS_cons, blkK_n, blkK_r, blkK_b, blkK_c, finK_r, finK_n, stT_nm, stT_tp, stTs_nil, stTs_cons, stO_s, Ev.add_int, Ev.sub_int, mul_intE, div_int, mod_intE, lt_intE, gt_intE, le_intE, ge_intE, eq_intE, ne_intE, eq_strE, ne_strE, eq_blE, ne_blE, is_nonE, is_blE, isnot_nonE, idx_lst, idx_tup, idx_refI, idx_refS, idx_dctI, idx_dctS, setL_lst, setL_str, ix4_0, ix4_1, ix4_2, ix4_3, fin_f, List.map, List.replicate, List.length_cons, List.length_nil, List.nil_append, List.cons_append, List.getElem?_cons_zero, List.getElem?_cons_succ, List.set_cons_zero, List.set_cons_succ, if_true, if_false, decide_true, decide_false, Bool.not_true, Bool.not_false, ite_true, ite_false, Ev.bi_len, lenO_s, bi_int, bi_intb, bi_abs, bi_min, bi_max, bi_gcd, bi_str, tr_bl, tr_int, Nat.sub_self, Nat.zero_add, Nat.reduceAdd, Nat.reduceSub, atI_0, atI_1, atI_2, atI_3, atI_4, Int.reduceNeg, Ev.pow_int, and_self, Bool.false_eq_true, reduceCtorEq, Option.bind_some, Option.bind_none, id_eq, Int.le_refl, Int.lt_irrefl, Int.reduceEq, Int.reduceNe, Int.reduceLT, Int.reduceLE, Int.reducePow, Int.reduceToNat, Int.reduceAbs, Nat.reducePow, Nat.reduceLT, Nat.reduceLeDiff, Nat.reduceEqDiff, Nat.reduceMul, isi_non_dict, isi_non_list, isi_non_tuple, isi_non_str, isi_non_int, isi_non_bool, isi_bl_dict, isi_bl_list, isi_bl_tuple, isi_bl_str, isi_bl_int, isi_bl_bool, isi_int_dict, isi_int_list, isi_int_tuple, isi_int_str, isi_int_int, isi_int_bool, isi_str_dict, isi_str_list, isi_str_tuple, isi_str_str, isi_str_int, isi_str_bool, isi_tup_dict, isi_tup_list, isi_tup_tuple, isi_tup_str, isi_tup_int, isi_tup_bool, isi_lst_dict, isi_lst_list, isi_lst_tuple, isi_lst_str, isi_lst_int, isi_lst_bool, isi_dct_dict, isi_dct_list, isi_dct_tuple, isi_dct_str, isi_dct_int, isi_dct_bool, isb_int, isb_str, isb_tup, isb_lst, isb_dct, isb_ref, isb_non, isn_int, isn_str, isn_tup, isn_lst, isn_dct, isn_ref, isn_non, isn_bl, isi_rd_dict hd hb, len_dref hd hb, c, bi_allT, bne_self_eq_false, hxi, hxl, hl]
end
end Ev

set_option maxHeartbeats 4000000
/-! Ev22: _law_copied, names. -/
namespace Ev
open PySem PySem.Spec PyProof.Rows L2
theorem mapO_id {α : Type} {f : α → Option α} : ∀ {xs : List α}, (∀ x ∈ xs, f x = some x) → mapO f xs = some xs
  | [], _ => rfl
  | x :: t, h => by
    unfold mapO
    rw [h x List.mem_cons_self, mapO_id fun y hy => h y (List.mem_cons_of_mem _ hy)]
theorem closeV_dat {m : Nat} {L : List LO} {n : Nat} {x : LV} (h : Dat n x) : ∀ {d : Nat}, n < d → closeV m L d x = some x := by
  induction h with
  | non => intro d hd; cases d with | zero => omega | succ d => rfl
  | bl b => intro d hd; cases d with | zero => omega | succ d => rfl
  | int b => intro d hd; cases d with | zero => omega | succ d => rfl
  | str b => intro d hd; cases d with | zero => omega | succ d => rfl
  | tup h hl ih =>
    intro d hd
    cases d with
    | zero => omega
    | succ d =>
      unfold closeV
      dsimp only
      rw [mapO_id fun x hx => ih x hx (by omega)]; rfl
  | lst h hl ih =>
    intro d hd
    cases d with
    | zero => omega
    | succ d =>
      unfold closeV
      dsimp only
      rw [mapO_id fun x hx => ih x hx (by omega)]; rfl
  | @dct n kvs h hk hn hl ih =>
    intro d hd
    cases d with
    | zero => omega
    | succ d =>
      unfold closeV
      dsimp only
      rw [mapO_id fun q hq => by rw [ih q hq (by omega)]; rfl]; rfl
theorem fin_dat {n : Nat} {L L1 : List LO} {x : LV} (h : Dat n x) (hn : n < 8) (hf : frontL L L1 = true) : finB true L x L1 = .ok x L := fin_t (closeV_dat h hn) hf
theorem set_last {H : List LO} {o u : LO} : (H ++ [o]).set H.length u = H ++ [u] := by
  rw [List.set_append_right _ _ (Nat.le_refl _), Nat.sub_self]; rfl
theorem get_last {H : List LO} {o : LO} : (H ++ [o])[H.length]? = some o := by
  rw [List.getElem?_append_right (Nat.le_refl _), Nat.sub_self]; rfl
theorem get_front {H : List LO} {o u : LO} {a : Nat} (h : H[a]? = some u) : (H ++ [o])[a]? = some u := by
  rw [List.getElem?_append_left (List.getElem?_eq_some_iff.mp h).1, h]
theorem setL_dk {L : List LO} {r : Nat} {acc : List (DK × LV)} {i v : LV} {k : DK} (h : L[r]? = some (.dct acc)) (hi : toDK i = some k) (hk : kDict acc = true) (hl : acc.length < sizeLine) : setL (.ref r) i v L = .ok () (L.set r (.dct (dput acc k v))) := by
  unfold setL
  simp only [h, hi, hk, hl, and_self, if_true]
theorem kDict_take {kvs : List (DK × LV)} {i : Nat} (h : kDict kvs = true) : kDict (kvs.take i) = true := by
  unfold kDict at *
  rw [List.all_eq_true] at *
  exact fun x hx => h x (List.mem_of_mem_take hx)
theorem put_take {kvs : List (DK × LV)} {i : Nat} {k : DK} {v : LV} (hn : Nd kvs) (h : kvs[i]? = some (k, v)) : dput (kvs.take i) k v = kvs.take (i + 1) := by
  rw [dput_new, List.take_add_one, h]
  · rfl
  · intro p hp e
    obtain ⟨hi, ex⟩ := List.getElem?_eq_some_iff.mp h
    obtain ⟨j, hj, ez⟩ := List.getElem_of_mem hp
    rw [List.length_take] at hj
    rw [List.getElem_take] at ez
    have q := (List.getElem_inj (i := j) (j := i) (h₀ := by rw [List.length_map]; omega) (h₁ := by rw [List.length_map]; omega) hn).mp (by rw [List.getElem_map, List.getElem_map, ez, ex, e])
    omega
theorem set_back {L : List LO} {d : Nat} {o u : LO} (hd : L[d]? = some o) : (L.set d u).set d o = L := by
  have hdl := (List.getElem?_eq_some_iff.mp hd).1
  rw [List.set_set]
  apply List.ext_getElem?
  intro i
  by_cases hi : d = i
  · subst hi; rw [List.getElem?_set_self hdl, hd]
  · rw [List.getElem?_set_ne hi]
theorem bi_tuple_l {L : List LO} {mu : Bool} {xs : List LV} : biL .tuple mu [.lst xs] L = .ok (.tup xs) L := by unfold biL seqOf; rfl
section
variable {T : List (Str × FB)} {n k : Nat} {L : List LO}
/-- the loop that fills a copy: v holds kvs in the heap H -/
theorem copied_turn {cb : CB} {v : LV} {kvs : List (DK × LV)} {H : List LO} (hv : ∀ o, dctOf (H ++ [o]) v = some kvs) (hk : kDict kvs = true) (hn : Nd kvs) (hl : kvs.length ≤ 1000) {P : Res (Fl × Sl) → Prop}
    (h : ∀ q ∈ kvs, ∀ L, cb "_law_copied" [q.2] L = .ok q.2 L) {i : Nat} {s : Sl} {L : List LO} {q : DK} {u : LV} (hq : kvs[i]? = some (q, u)) (hs : ∃ y, s = [some v, some (.ref H.length), y, none]) (hL : L = H ++ [.dct (kvs.take i)]) :
    ∃ s1, stT (.nm 2) q.toLV s = some s1 ∧ Turn (fun s L => (∃ y, s = [some v, some (.ref H.length), y, none]) ∧ L = H ++ [.dct (kvs.take (i + 1))]) P (l_law_copied_1 cb s1 L) := by
  obtain ⟨y, rfl⟩ := hs
  subst hL
  refine ⟨_, stT_nm, ?_⟩
  have hm := List.mem_of_getElem? hq
  have ht := kDict_toDK hk hm
  have e1 : idxL (H ++ [.dct (kvs.take i)]) v q.toLV = some u := by rw [toLV_idx (hv _) ht, dget_mem hn hm]
  have e2 := h (q, u) hm
  have e3 : setL (.ref H.length) q.toLV u (H ++ [.dct (kvs.take i)]) = .ok () (H ++ [.dct (kvs.take (i + 1))]) := by
    rw [setL_dk get_last ht (kDict_take hk) (small_line (by rw [List.length_take]; omega)), set_last, put_take hn hq]
  have e : l_law_copied_1 cb ([some v, some (.ref H.length), y, none].set 2 (some q.toLV)) (H ++ [.dct (kvs.take i)]) = .ok (.next, [some v, some (.ref H.length), some q.toLV, none]) (H ++ [.dct (kvs.take (i + 1))]) := by
    unfold l_law_copied_1
    simp -implicitDefEqProofs only [varE_ev, cE_ev, argsE_nil, argsE_cons, aK1_ok, aK2_ok, tupE_ev, tupK_ok, lstE_ev, lstK_ok, dctE_ev, newL_t, newL_f, newD_t, newD_f, binE_ev, binK1_ok, binK2_ok, idxE_ev, idxK1_ok, idxK2_ok, cmpE_ev, cmpK1_ok, cmpK2_ok, optV_s, optB_s, testB_ev, testK_ok, truE_ev, truK_ok, truO_s, notT_ev, notK_ok, andT_ev, andK_t, andK_f, orT_ev, orK_t, orK_f, andE_ev, andV1_ok, andV2_t, andV2_f, orE_ev, orV1_ok, orV2_t, orV2_f, notE_ev, notV1_ok, notV2_s, negE_ev, negK_ok, ifE_ev, ifV_t, ifV_f, chainE_ev, chK1_ok, chK2_ok, chK3_t, chK3_f, chK4_ok, partE_ev, partK_ok, noE_ev, sliceE_ev, slK1_ok, slK2_ok, slK3_ok, callE_ev, callK_ok, biE_ev, biK_ok, appE_ev, apK2_ok, getE_ev, geK2_ok, get2E_ev, gfK2_ok, gfK3_ok, geO_ok, asgN_ev, asgK_ok, asgT_ev, asgTK_ok, asgO_s, putE_ev, putK1_ok, putK2_ok, putK3_ok, putK4_ok, retE_ev, retK_ok, retN_ev, exprS_ev, exprK_ok, passS_ev, breakS_ev, contS_ev, ifS_ev, ifK_t, ifK_f, blkS_nil, blkS_cons, blkK_n, blkK_r, blkK_b, blkK_c, finK_r, finK_n, stT_nm, stT_tp, stTs_nil, stTs_cons, stO_s, Ev.add_int, Ev.sub_int, mul_intE, div_int, mod_intE, lt_intE, gt_intE, le_intE, ge_intE, eq_intE, ne_intE, eq_strE, ne_strE, eq_blE, ne_blE, is_nonE, is_blE, isnot_nonE, idx_lst, idx_tup, idx_refI, idx_refS, idx_dctI, idx_dctS, setL_lst, setL_str, ix4_0, ix4_1, ix4_2, ix4_3, fin_f, List.map, List.replicate, List.length_cons, List.length_nil, List.nil_append, List.cons_append, List.getElem?_cons_zero, List.getElem?_cons_succ, List.set_cons_zero, List.set_cons_succ, if_true, if_false, decide_true, decide_false, Bool.not_true, Bool.not_false, ite_true, ite_false, Ev.bi_len, lenO_s, bi_int, bi_intb, bi_abs, bi_min, bi_max, bi_gcd, bi_str, tr_bl, tr_int, Nat.sub_self, Nat.zero_add, Nat.reduceAdd, Nat.reduceSub, atI_0, atI_1, atI_2, atI_3, atI_4, Int.reduceNeg, Ev.pow_int, and_self, Bool.false_eq_true, reduceCtorEq, Option.bind_some, Option.bind_none, id_eq, Int.le_refl, Int.lt_irrefl, Int.reduceEq, Int.reduceNe, Int.reduceLT, Int.reduceLE, Int.reducePow, Int.reduceToNat, Int.reduceAbs, Nat.reducePow, Nat.reduceLT, Nat.reduceLeDiff, Nat.reduceEqDiff, Nat.reduceMul, e1, e2, e3]
  rw [e]
  exact .next ⟨⟨_, rfl⟩, rfl⟩
theorem copied_all {cb : CB} {xs : List LV} (h : ∀ x ∈ xs, cb "_law_copied" [x] L = .ok x L) (hl : xs.length ≤ 1000) {s : Sl} {v : LV} (hs : s = [some v, none, none, none]) (hv : v = .lst xs ∨ v = .tup xs) :
    lcN 0 (.nm 3) yesT (callE "_law_copied" [(varE 3)]) [3] false cb s L = .ok (.lst xs) L := by
  subst hs
  rw [lcN_val rfl hv, lcX_map (fun _ => true) id (small_line hl)]
  · rw [filter_yes, List.map_id]; rfl
  · intro x hx
    refine ⟨_, stT_nm, rfl, fun _ => ?_⟩
    have e := h x hx
    simp -implicitDefEqProofs only [varE_ev, cE_ev, argsE_nil, argsE_cons, aK1_ok, aK2_ok, tupE_ev, tupK_ok, lstE_ev, lstK_ok, dctE_ev, newL_t, newL_f, newD_t, newD_f, binE_ev, binK1_ok, binK2_ok, idxE_ev, idxK1_ok, idxK2_ok, cmpE_ev, cmpK1_ok, cmpK2_ok, optV_s, optB_s, testB_ev, testK_ok, truE_ev, truK_ok, truO_s, notT_ev, notK_ok, andT_ev, andK_t, andK_f, orT_ev, orK_t, orK_f, andE_ev, andV1_ok, andV2_t, andV2_f, orE_ev, orV1_ok, orV2_t, orV2_f, notE_ev, notV1_ok, notV2_s, negE_ev, negK_ok, ifE_ev, ifV_t, ifV_f, chainE_ev, chK1_ok, chK2_ok, chK3_t, chK3_f, chK4_ok, partE_ev, partK_ok, noE_ev, sliceE_ev, slK1_ok, slK2_ok, slK3_ok, callE_ev, callK_ok, biE_ev, biK_ok, appE_ev, apK2_ok, getE_ev, geK2_ok, get2E_ev, gfK2_ok, gfK3_ok, geO_ok, asgN_ev, asgK_ok, asgT_ev, asgTK_ok, asgO_s, putE_ev, putK1_ok, putK2_ok, putK3_ok, putK4_ok, retE_ev, retK_ok, retN_ev, exprS_ev, exprK_ok, passS_ev, breakS_ev, contS_ev, ifS_ev, ifK_t, ifK_f, blkS_nil, blkS_cons, blkK_n, blkK_r, blkK_b, blkK_c, finK_r, finK_n, stT_nm, stT_tp, stTs_nil, stTs_cons, stO_s, Ev.add_int, Ev.sub_int, mul_intE, div_int, mod_intE, lt_intE, gt_intE, le_intE, ge_intE, eq_intE, ne_intE, eq_strE, ne_strE, eq_blE, ne_blE, is_nonE, is_blE, isnot_nonE, idx_lst, idx_tup, idx_refI, idx_refS, idx_dctI, idx_dctS, setL_lst, setL_str, ix4_0, ix4_1, ix4_2, ix4_3, fin_f, List.map, List.replicate, List.length_cons, List.length_nil, List.nil_append, List.cons_append, List.getElem?_cons_zero, List.getElem?_cons_succ, List.set_cons_zero, List.set_cons_succ, if_true, if_false, decide_true, decide_false, Bool.not_true, Bool.not_false, ite_true, ite_false, Ev.bi_len, lenO_s, bi_int, bi_intb, bi_abs, bi_min, bi_max, bi_gcd, bi_str, tr_bl, tr_int, Nat.sub_self, Nat.zero_add, Nat.reduceAdd, Nat.reduceSub, atI_0, atI_1, atI_2, atI_3, atI_4, Int.reduceNeg, Ev.pow_int, and_self, Bool.false_eq_true, reduceCtorEq, Option.bind_some, Option.bind_none, id_eq, Int.le_refl, Int.lt_irrefl, Int.reduceEq, Int.reduceNe, Int.reduceLT, Int.reduceLE, Int.reducePow, Int.reduceToNat, Int.reduceAbs, Nat.reducePow, Nat.reduceLT, Nat.reduceLeDiff, Nat.reduceEqDiff, Nat.reduceMul, wipe_3, e]
theorem copied_leaf (hT : Has T "_law_copied" 4 true b_law_copied) {x : LV} (hx : x = .non ∨ (∃ b, x = .bl b) ∨ (∃ i, x = .int i) ∨ ∃ z, x = .str z) : evCall T (k + 1) "_law_copied" [x] L = .ok x L := by
  rw [call_of hT]
  unfold b_law_copied
  generalize f_law_copied_1 = C1 at *
  generalize c_law_copied_1 = C2 at *
  generalize c_law_copied_2 = C3 at *
  have fin : ∀ {y : LV}, Dat 0 y → finB true L y L = .ok y L := fun h => fin_dat h (by omega) (frontL_refl L)
  rcases hx with rfl | ⟨b, rfl⟩ | ⟨i, rfl⟩ | ⟨z, rfl⟩
  · simp -implicitDefEqProofs only [varE_ev, cE_ev, argsE_nil, argsE_cons, aK1_ok, aK2_ok, tupE_ev, tupK_ok, lstE_ev, lstK_ok, dctE_ev, newL_t, newL_f, newD_t, newD_f, binE_ev, binK1_ok, binK2_ok, idxE_ev, idxK1_ok, idxK2_ok, cmpE_ev, cmpK1_ok, cmpK2_ok, optV_s, optB_s, testB_ev, testK_ok, truE_ev, truK_ok, truO_s, notT_ev, notK_ok, andT_ev, andK_t, andK_f, orT_ev, orK_t, orK_f, andE_ev, andV1_ok, andV2_t, andV2_f, orE_ev, orV1_ok, orV2_t, orV2_f, notE_ev, notV1_ok, notV2_s, negE_ev, negK_ok, ifE_ev, ifV_t, ifV_f, chainE_ev, chK1_ok, chK2_ok, chK3_t, chK3_f, chK4_ok, partE_ev, partK_ok, noE_ev, sliceE_ev, slK1_ok, slK2_ok, slK3_ok, callE_ev, callK_ok, biE_ev, biK_ok, appE_ev, apK2_ok, getE_ev, geK2_ok, get2E_ev, gfK2_ok, gfK3_ok, geO_ok, asgN_ev, asgK_ok, asgT_ev, asgTK_ok, asgO_s, putE_ev, putK1_ok, putK2_ok, putK3_ok, putK4_ok, retE_ev, retK_ok, retN_ev, exprS_ev, exprK_ok, passS_ev, breakS_ev, contS_ev, ifS_ev, ifK_t, ifK_f, blkS_nil, blkS_cons, blkK_n, blkK_r, blkK_b, blkK_c, finK_r, finK_n, stT_nm, stT_tp, stTs_nil, stTs_cons, stO_s, Ev.add_int, Ev.sub_int, mul_intE, div_int, mod_intE, lt_intE, gt_intE, le_intE, ge_intE, eq_intE, ne_intE, eq_strE, ne_strE, eq_blE, ne_blE, is_nonE, is_blE, isnot_nonE, idx_lst, idx_tup, idx_refI, idx_refS, idx_dctI, idx_dctS, setL_lst, setL_str, ix4_0, ix4_1, ix4_2, ix4_3, fin_f, List.map, List.replicate, List.length_cons, List.length_nil, List.nil_append, List.cons_append, List.getElem?_cons_zero, List.getElem?_cons_succ, List.set_cons_zero, List.set_cons_succ, if_true, if_false, decide_true, decide_false, Bool.not_true, Bool.not_false, ite_true, ite_false, Ev.bi_len, lenO_s, bi_int, bi_intb, bi_abs, bi_min, bi_max, bi_gcd, bi_str, tr_bl, tr_int, Nat.sub_self, Nat.zero_add, Nat.reduceAdd, Nat.reduceSub, atI_0, atI_1, atI_2, atI_3, atI_4, Int.reduceNeg, Ev.pow_int, and_self, Bool.false_eq_true, reduceCtorEq, Option.bind_some, Option.bind_none, id_eq, Int.le_refl, Int.lt_irrefl, Int.reduceEq, Int.reduceNe, Int.reduceLT, Int.reduceLE, Int.reducePow, Int.reduceToNat, Int.reduceAbs, Nat.reducePow, Nat.reduceLT, Nat.reduceLeDiff, Nat.reduceEqDiff, Nat.reduceMul, isi_non_dict, isi_non_list, isi_non_tuple, isi_non_str, isi_non_int, isi_non_bool, isi_bl_dict, isi_bl_list, isi_bl_tuple, isi_bl_str, isi_bl_int, isi_bl_bool, isi_int_dict, isi_int_list, isi_int_tuple, isi_int_str, isi_int_int, isi_int_bool, isi_str_dict, isi_str_list, isi_str_tuple, isi_str_str, isi_str_int, isi_str_bool, isi_tup_dict, isi_tup_list, isi_tup_tuple, isi_tup_str, isi_tup_int, isi_tup_bool, isi_lst_dict, isi_lst_list, isi_lst_tuple, isi_lst_str, isi_lst_int, isi_lst_bool, isi_dct_dict, isi_dct_list, isi_dct_tuple, isi_dct_str, isi_dct_int, isi_dct_bool, isb_int, isb_str, isb_tup, isb_lst, isb_dct, isb_ref, isb_non, isn_int, isn_str, isn_tup, isn_lst, isn_dct, isn_ref, isn_non, isn_bl, fin .non]
  · simp -implicitDefEqProofs only [varE_ev, cE_ev, argsE_nil, argsE_cons, aK1_ok, aK2_ok, tupE_ev, tupK_ok, lstE_ev, lstK_ok, dctE_ev, newL_t, newL_f, newD_t, newD_f, binE_ev, binK1_ok, binK2_ok, idxE_ev, idxK1_ok, idxK2_ok, cmpE_ev, cmpK1_ok, cmpK2_ok, optV_s, optB_s, testB_ev, testK_ok, truE_ev, truK_ok, truO_s, notT_ev, notK_ok, andT_ev, andK_t, andK_f, orT_ev, orK_t, orK_f, andE_ev, andV1_ok, andV2_t, andV2_f, orE_ev, orV1_ok, orV2_t, orV2_f, notE_ev, notV1_ok, notV2_s, negE_ev, negK_ok, ifE_ev, ifV_t, ifV_f, chainE_ev, chK1_ok, chK2_ok, chK3_t, chK3_f, chK4_ok, partE_ev, partK_ok, noE_ev, sliceE_ev, slK1_ok, slK2_ok, slK3_ok, callE_ev, callK_ok, biE_ev, biK_ok, appE_ev, apK2_ok, getE_ev, geK2_ok, get2E_ev, gfK2_ok, gfK3_ok, geO_ok, asgN_ev, asgK_ok, asgT_ev, asgTK_ok, asgO_s, putE_ev, putK1_ok, putK2_ok, putK3_ok, putK4_ok, retE_ev, retK_ok, retN_ev, exprS_ev, exprK_ok, passS_ev, breakS_ev, contS_ev, ifS_ev, ifK_t, ifK_f, blkS_nil, blkS_cons, blkK_n, blkK_r, blkK_b, blkK_c, finK_r, finK_n, stT_nm, stT_tp, stTs_nil, stTs_cons, stO_s, Ev.add_int, Ev.sub_int, mul_intE, div_int, mod_intE, lt_intE, gt_intE, le_intE, ge_intE, eq_intE, ne_intE, eq_strE, ne_strE, eq_blE, ne_blE, is_nonE, is_blE, isnot_nonE, idx_lst, idx_tup, idx_refI, idx_refS, idx_dctI, idx_dctS, setL_lst, setL_str, ix4_0, ix4_1, ix4_2, ix4_3, fin_f, List.map, List.replicate, List.length_cons, List.length_nil, List.nil_append, List.cons_append, List.getElem?_cons_zero, List.getElem?_cons_succ, List.set_cons_zero, List.set_cons_succ, if_true, if_false, decide_true, decide_false, Bool.not_true, Bool.not_false, ite_true, ite_false, Ev.bi_len, lenO_s, bi_int, bi_intb, bi_abs, bi_min, bi_max, bi_gcd, bi_str, tr_bl, tr_int, Nat.sub_self, Nat.zero_add, Nat.reduceAdd, Nat.reduceSub, atI_0, atI_1, atI_2, atI_3, atI_4, Int.reduceNeg, Ev.pow_int, and_self, Bool.false_eq_true, reduceCtorEq, Option.bind_some, Option.bind_none, id_eq, Int.le_refl, Int.lt_irrefl, Int.reduceEq, Int.reduceNe, Int.reduceLT, Int.reduceLE, Int.reducePow, Int.reduceToNat, Int.reduceAbs, Nat.reducePow, Nat.reduceLT, Nat.reduceLeDiff, Nat.reduceEqDiff, Nat.reduceMul, isi_non_dict, isi_non_list, isi_non_tuple, isi_non_str, isi_non_int, isi_non_bool, isi_bl_dict, isi_bl_list, isi_bl_tuple, isi_bl_str, isi_bl_int, isi_bl_bool, isi_int_dict, isi_int_list, isi_int_tuple, isi_int_str, isi_int_int, isi_int_bool, isi_str_dict, isi_str_list, isi_str_tuple, isi_str_str, isi_str_int, isi_str_bool, isi_tup_dict, isi_tup_list, isi_tup_tuple, isi_tup_str, isi_tup_int, isi_tup_bool, isi_lst_dict, isi_lst_list, isi_lst_tuple, isi_lst_str, isi_lst_int, isi_lst_bool, isi_dct_dict, isi_dct_list, isi_dct_tuple, isi_dct_str, isi_dct_int, isi_dct_bool, isb_int, isb_str, isb_tup, isb_lst, isb_dct, isb_ref, isb_non, isn_int, isn_str, isn_tup, isn_lst, isn_dct, isn_ref, isn_non, isn_bl, fin (.bl b)]
  · simp -implicitDefEqProofs only [varE_ev, cE_ev, argsE_nil, argsE_cons, aK1_ok, aK2_ok, tupE_ev, tupK_ok, lstE_ev, lstK_ok, dctE_ev, newL_t, newL_f, newD_t, newD_f, binE_ev, binK1_ok, binK2_ok, idxE_ev, idxK1_ok, idxK2_ok, cmpE_ev, cmpK1_ok, cmpK2_ok, optV_s, optB_s, testB_ev, testK_ok, truE_ev, truK_ok, truO_s, notT_ev, notK_ok, andT_ev, andK_t, andK_f, orT_ev, orK_t, orK_f, andE_ev, andV1_ok, andV2_t, andV2_f, orE_ev, orV1_ok, orV2_t, orV2_f, notE_ev, notV1_ok, notV2_s, negE_ev, negK_ok, ifE_ev, ifV_t, ifV_f, chainE_ev, chK1_ok, chK2_ok, chK3_t, chK3_f, chK4_ok, partE_ev, partK_ok, noE_ev, sliceE_ev, slK1_ok, slK2_ok, slK3_ok, callE_ev, callK_ok, biE_ev, biK_ok, appE_ev, apK2_ok, getE_ev, geK2_ok, get2E_ev, gfK2_ok, gfK3_ok, geO_ok, asgN_ev, asgK_ok, asgT_ev, asgTK_ok, asgO_s, putE_ev, putK1_ok, putK2_ok, putK3_ok, putK4_ok, retE_ev, retK_ok, retN_ev, exprS_ev, exprK_ok, passS_ev, breakS_ev, contS_ev, ifS_ev, ifK_t, ifK_f, blkS_nil, blkS_cons, blkK_n, blkK_r, blkK_b, blkK_c, finK_r, finK_n, stT_nm, stT_tp, stTs_nil, stTs_cons, stO_s, Ev.add_int, Ev.sub_int, mul_intE, div_int, mod_intE, lt_intE, gt_intE, le_intE, ge_intE, eq_intE, ne_intE, eq_strE, ne_strE, eq_blE, ne_blE, is_nonE, is_blE, isnot_nonE, idx_lst, idx_tup, idx_refI, idx_refS, idx_dctI, idx_dctS, setL_lst, setL_str, ix4_0, ix4_1, ix4_2, ix4_3, fin_f, List.map, List.replicate, List.length_cons, List.length_nil, List.nil_append, List.cons_append, List.getElem?_cons_zero, List.getElem?_cons_succ, List.set_cons_zero, List.set_cons_succ, if_true, if_false, decide_true, decide_false, Bool.not_true, Bool.not_false, ite_true, ite_false, Ev.bi_len, lenO_s, bi_int, bi_intb, bi_abs, bi_min, bi_max, bi_gcd, bi_str, tr_bl, tr_int, Nat.sub_self, Nat.zero_add, Nat.reduceAdd, Nat.reduceSub, atI_0, atI_1, atI_2, atI_3, atI_4, Int.reduceNeg, Ev.pow_int, and_self, Bool.false_eq_true, reduceCtorEq, Option.bind_some, Option.bind_none, id_eq, Int.le_refl, Int.lt_irrefl, Int.reduceEq, Int.reduceNe, Int.reduceLT, Int.reduceLE, Int.reducePow, Int.reduceToNat, Int.reduceAbs, Nat.reducePow, Nat.reduceLT, Nat.reduceLeDiff, Nat.reduceEqDiff, Nat.reduceMul, isi_non_dict, isi_non_list, isi_non_tuple, isi_non_str, isi_non_int, isi_non_bool, isi_bl_dict, isi_bl_list, isi_bl_tuple, isi_bl_str, isi_bl_int, isi_bl_bool, isi_int_dict, isi_int_list, isi_int_tuple, isi_int_str, isi_int_int, isi_int_bool, isi_str_dict, isi_str_list, isi_str_tuple, isi_str_str, isi_str_int, isi_str_bool, isi_tup_dict, isi_tup_list, isi_tup_tuple, isi_tup_str, isi_tup_int, isi_tup_bool, isi_lst_dict, isi_lst_list, isi_lst_tuple, isi_lst_str, isi_lst_int, isi_lst_bool, isi_dct_dict, isi_dct_list, isi_dct_tuple, isi_dct_str, isi_dct_int, isi_dct_bool, isb_int, isb_str, isb_tup, isb_lst, isb_dct, isb_ref, isb_non, isn_int, isn_str, isn_tup, isn_lst, isn_dct, isn_ref, isn_non, isn_bl, fin (.int i)]
  · simp -implicitDefEqProofs only [varE_ev, cE_ev, argsE_nil, argsE_cons, aK1_ok, aK2_ok, tupE_ev, tupK_ok, lstE_ev, lstK_ok, dctE_ev, newL_t, newL_f, newD_t, newD_f, binE_ev, binK1_ok, binK2_ok, idxE_ev, idxK1_ok, idxK2_ok, cmpE_ev, cmpK1_ok, cmpK2_ok, optV_s, optB_s, testB_ev, testK_ok, truE_ev, truK_ok, truO_s, notT_ev, notK_ok, andT_ev, andK_t, andK_f, orT_ev, orK_t, orK_f, andE_ev, andV1_ok, andV2_t, andV2_f, orE_ev, orV1_ok, orV2_t, orV2_f, notE_ev, notV1_ok, notV2_s, negE_ev, negK_ok, ifE_ev, ifV_t, ifV_f, chainE_ev, chK1_ok, chK2_ok, chK3_t, chK3_f, chK4_ok, partE_ev, partK_ok, noE_ev, sliceE_ev, slK1_ok, slK2_ok, slK3_ok, callE_ev, callK_ok, biE_ev, biK_ok, appE_ev, apK2_ok, getE_ev, geK2_ok, get2E_ev, gfK2_ok, gfK3_ok, geO_ok, asgN_ev, asgK_ok, asgT_ev, asgTK_ok, asgO_s, putE_ev, putK1_ok, putK2_ok, putK3_ok, putK4_ok, retE_ev, retK_ok, retN_ev, exprS_ev, exprK_ok, passS_ev, breakS_ev, contS_ev, ifS_ev, ifK_t, ifK_f, blkS_nil, blkS_cons, blkK_n, blkK_r, blkK_b, blkK_c, finK_r, finK_n, stT_nm, stT_tp, stTs_nil, stTs_cons, stO_s, Ev.add_int, Ev.sub_int, mul_intE, div_int, mod_intE, lt_intE, gt_intE, le_intE, ge_intE, eq_intE, ne_intE, eq_strE, ne_strE, eq_blE, ne_blE, is_nonE, is_blE, isnot_nonE, idx_lst, idx_tup, idx_refI, idx_refS, idx_dctI, idx_dctS, setL_lst, setL_str, ix4_0, ix4_1, ix4_2, ix4_3, fin_f, List.map, List.replicate, List.length_cons, List.length_nil, List.nil_append, List.cons_append, List.getElem?_cons_zero, List.getElem?_cons_succ, List.set_cons_zero, List.set_cons_succ, if_true, if_false, decide_true, decide_false, Bool.not_true, Bool.not_false, ite_true, ite_false, Ev.bi_len, lenO_s, bi_int, bi_intb, bi_abs, bi_min, bi_max, bi_gcd, bi_str, tr_bl, tr_int, Nat.sub_self, Nat.zero_add, Nat.reduceAdd, Nat.reduceSub, atI_0, atI_1, atI_2, atI_3, atI_4, Int.reduceNeg, Ev.pow_int, and_self, Bool.false_eq_true, reduceCtorEq, Option.bind_some, Option.bind_none, id_eq, Int.le_refl, Int.lt_irrefl, Int.reduceEq, Int.reduceNe, Int.reduceLT, Int.reduceLE, Int.reducePow, Int.reduceToNat, Int.reduceAbs, Nat.reducePow, Nat.reduceLT, Nat.reduceLeDiff, Nat.reduceEqDiff, Nat.reduceMul, isi_non_dict, isi_non_list, isi_non_tuple, isi_non_str, isi_non_int, isi_non_bool, isi_bl_dict, isi_bl_list, isi_bl_tuple, isi_bl_str, isi_bl_int, isi_bl_bool, isi_int_dict, isi_int_list, isi_int_tuple, isi_int_str, isi_int_int, isi_int_bool, isi_str_dict, isi_str_list, isi_str_tuple, isi_str_str, isi_str_int, isi_str_bool, isi_tup_dict, isi_tup_list, isi_tup_tuple, isi_tup_str, isi_tup_int, isi_tup_bool, isi_lst_dict, isi_lst_list, isi_lst_tuple, isi_lst_str, isi_lst_int, isi_lst_bool, isi_dct_dict, isi_dct_list, isi_dct_tuple, isi_dct_str, isi_dct_int, isi_dct_bool, isb_int, isb_str, isb_tup, isb_lst, isb_dct, isb_ref, isb_non, isn_int, isn_str, isn_tup, isn_lst, isn_dct, isn_ref, isn_non, isn_bl, fin (.str z)]
theorem copied_tup (hT : Has T "_law_copied" 4 true b_law_copied) {xs : List LV} (c : c_law_copied_2 (evCall T k) [some (.tup xs), none, none, none] L = .ok (.lst xs) L) (hd : Dat n (.tup xs)) (h8 : n < 8) : evCall T (k + 1) "_law_copied" [.tup xs] L = .ok (.tup xs) L := by
  rw [call_of hT]
  unfold b_law_copied
  generalize f_law_copied_1 = C1 at *
  generalize c_law_copied_1 = C2 at *
  generalize c_law_copied_2 = C3 at *
  have fin := fin_dat hd h8 (frontL_refl L)
  simp -implicitDefEqProofs only [varE_ev, cE_ev, argsE_nil, argsE_cons, aK1_ok, aK2_ok, tupE_ev, tupK_ok, lstE_ev, lstK_ok, dctE_ev, newL_t, newL_f, newD_t, newD_f, binE_ev, binK1_ok, binK2_ok, idxE_ev, idxK1_ok, idxK2_ok, cmpE_ev, cmpK1_ok, cmpK2_ok, optV_s, optB_s, testB_ev, testK_ok, truE_ev, truK_ok, truO_s, notT_ev, notK_ok, andT_ev, andK_t, andK_f, orT_ev, orK_t, orK_f, andE_ev, andV1_ok, andV2_t, andV2_f, orE_ev, orV1_ok, orV2_t, orV2_f, notE_ev, notV1_ok, notV2_s, negE_ev, negK_ok, ifE_ev, ifV_t, ifV_f, chainE_ev, chK1_ok, chK2_ok, chK3_t, chK3_f, chK4_ok, partE_ev, partK_ok, noE_ev, sliceE_ev, slK1_ok, slK2_ok, slK3_ok, callE_ev, callK_ok, biE_ev, biK_ok, appE_ev, apK2_ok, getE_ev, geK2_ok, get2E_ev, gfK2_ok, gfK3_ok, geO_ok, asgN_ev, asgK_ok, asgT_ev, asgTK_ok, asgO_s, putE_ev, putK1_ok, putK2_ok, putK3_ok, putK4_ok, retE_ev, retK_ok, retN_ev, exprS_ev, exprK_ok, passS_ev, breakS_ev, contS_ev, ifS_ev, ifK_t, ifK_f, blkS_nil, blkS_cons, blkK_n, blkK_r, blkK_b, blkK_c, finK_r, finK_n, stT_nm, stT_tp, stTs_nil, stTs_cons, stO_s, Ev.add_int, Ev.sub_int, mul_intE, div_int, mod_intE, lt_intE, gt_intE, le_intE, ge_intE, eq_intE, ne_intE, eq_strE, ne_strE, eq_blE, ne_blE, is_nonE, is_blE, isnot_nonE, idx_lst, idx_tup, idx_refI, idx_refS, idx_dctI, idx_dctS, setL_lst, setL_str, ix4_0, ix4_1, ix4_2, ix4_3, fin_f, List.map, List.replicate, List.length_cons, List.length_nil, List.nil_append, List.cons_append, List.getElem?_cons_zero, List.getElem?_cons_succ, List.set_cons_zero, List.set_cons_succ, if_true, if_false, decide_true, decide_false, Bool.not_true, Bool.not_false, ite_true, ite_false, Ev.bi_len, lenO_s, bi_int, bi_intb, bi_abs, bi_min, bi_max, bi_gcd, bi_str, tr_bl, tr_int, Nat.sub_self, Nat.zero_add, Nat.reduceAdd, Nat.reduceSub, atI_0, atI_1, atI_2, atI_3, atI_4, Int.reduceNeg, Ev.pow_int, and_self, Bool.false_eq_true, reduceCtorEq, Option.bind_some, Option.bind_none, id_eq, Int.le_refl, Int.lt_irrefl, Int.reduceEq, Int.reduceNe, Int.reduceLT, Int.reduceLE, Int.reducePow, Int.reduceToNat, Int.reduceAbs, Nat.reducePow, Nat.reduceLT, Nat.reduceLeDiff, Nat.reduceEqDiff, Nat.reduceMul, isi_non_dict, isi_non_list, isi_non_tuple, isi_non_str, isi_non_int, isi_non_bool, isi_bl_dict, isi_bl_list, isi_bl_tuple, isi_bl_str, isi_bl_int, isi_bl_bool, isi_int_dict, isi_int_list, isi_int_tuple, isi_int_str, isi_int_int, isi_int_bool, isi_str_dict, isi_str_list, isi_str_tuple, isi_str_str, isi_str_int, isi_str_bool, isi_tup_dict, isi_tup_list, isi_tup_tuple, isi_tup_str, isi_tup_int, isi_tup_bool, isi_lst_dict, isi_lst_list, isi_lst_tuple, isi_lst_str, isi_lst_int, isi_lst_bool, isi_dct_dict, isi_dct_list, isi_dct_tuple, isi_dct_str, isi_dct_int, isi_dct_bool, isb_int, isb_str, isb_tup, isb_lst, isb_dct, isb_ref, isb_non, isn_int, isn_str, isn_tup, isn_lst, isn_dct, isn_ref, isn_non, isn_bl, c, bi_tuple_l, fin]
theorem copied_lst (hT : Has T "_law_copied" 4 true b_law_copied) {xs : List LV} (c : c_law_copied_1 (evCall T k) [some (.lst xs), none, none, none] L = .ok (.lst xs) L) (hd : Dat n (.lst xs)) (h8 : n < 8) : evCall T (k + 1) "_law_copied" [.lst xs] L = .ok (.lst xs) L := by
  rw [call_of hT]
  unfold b_law_copied
  generalize f_law_copied_1 = C1 at *
  generalize c_law_copied_1 = C2 at *
  generalize c_law_copied_2 = C3 at *
  have fin := fin_dat hd h8 (frontL_refl L)
  simp -implicitDefEqProofs only [varE_ev, cE_ev, argsE_nil, argsE_cons, aK1_ok, aK2_ok, tupE_ev, tupK_ok, lstE_ev, lstK_ok, dctE_ev, newL_t, newL_f, newD_t, newD_f, binE_ev, binK1_ok, binK2_ok, idxE_ev, idxK1_ok, idxK2_ok, cmpE_ev, cmpK1_ok, cmpK2_ok, optV_s, optB_s, testB_ev, testK_ok, truE_ev, truK_ok, truO_s, notT_ev, notK_ok, andT_ev, andK_t, andK_f, orT_ev, orK_t, orK_f, andE_ev, andV1_ok, andV2_t, andV2_f, orE_ev, orV1_ok, orV2_t, orV2_f, notE_ev, notV1_ok, notV2_s, negE_ev, negK_ok, ifE_ev, ifV_t, ifV_f, chainE_ev, chK1_ok, chK2_ok, chK3_t, chK3_f, chK4_ok, partE_ev, partK_ok, noE_ev, sliceE_ev, slK1_ok, slK2_ok, slK3_ok, callE_ev, callK_ok, biE_ev, biK_ok, appE_ev, apK2_ok, getE_ev, geK2_ok, get2E_ev, gfK2_ok, gfK3_ok, geO_ok, asgN_ev, asgK_ok, asgT_ev, asgTK_ok, asgO_s, putE_ev, putK1_ok, putK2_ok, putK3_ok, putK4_ok, retE_ev, retK_ok, retN_ev, exprS_ev, exprK_ok, passS_ev, breakS_ev, contS_ev, ifS_ev, ifK_t, ifK_f, blkS_nil, blkS_cons, blkK_n, blkK_r, blkK_b, blkK_c, finK_r, finK_n, stT_nm, stT_tp, stTs_nil, stTs_cons, stO_s, Ev.add_int, Ev.sub_int, mul_intE, div_int, mod_intE, lt_intE, gt_intE, le_intE, ge_intE, eq_intE, ne_intE, eq_strE, ne_strE, eq_blE, ne_blE, is_nonE, is_blE, isnot_nonE, idx_lst, idx_tup, idx_refI, idx_refS, idx_dctI, idx_dctS, setL_lst, setL_str, ix4_0, ix4_1, ix4_2, ix4_3, fin_f, List.map, List.replicate, List.length_cons, List.length_nil, List.nil_append, List.cons_append, List.getElem?_cons_zero, List.getElem?_cons_succ, List.set_cons_zero, List.set_cons_succ, if_true, if_false, decide_true, decide_false, Bool.not_true, Bool.not_false, ite_true, ite_false, Ev.bi_len, lenO_s, bi_int, bi_intb, bi_abs, bi_min, bi_max, bi_gcd, bi_str, tr_bl, tr_int, Nat.sub_self, Nat.zero_add, Nat.reduceAdd, Nat.reduceSub, atI_0, atI_1, atI_2, atI_3, atI_4, Int.reduceNeg, Ev.pow_int, and_self, Bool.false_eq_true, reduceCtorEq, Option.bind_some, Option.bind_none, id_eq, Int.le_refl, Int.lt_irrefl, Int.reduceEq, Int.reduceNe, Int.reduceLT, Int.reduceLE, Int.reducePow, Int.reduceToNat, Int.reduceAbs, Nat.reducePow, Nat.reduceLT, Nat.reduceLeDiff, Nat.reduceEqDiff, Nat.reduceMul, isi_non_dict, isi_non_list, isi_non_tuple, isi_non_str, isi_non_int, isi_non_bool, isi_bl_dict, isi_bl_list, isi_bl_tuple, isi_bl_str, isi_bl_int, isi_bl_bool, isi_int_dict, isi_int_list, isi_int_tuple, isi_int_str, isi_int_int, isi_int_bool, isi_str_dict, isi_str_list, isi_str_tuple, isi_str_str, isi_str_int, isi_str_bool, isi_tup_dict, isi_tup_list, isi_tup_tuple, isi_tup_str, isi_tup_int, isi_tup_bool, isi_lst_dict, isi_lst_list, isi_lst_tuple, isi_lst_str, isi_lst_int, isi_lst_bool, isi_dct_dict, isi_dct_list, isi_dct_tuple, isi_dct_str, isi_dct_int, isi_dct_bool, isb_int, isb_str, isb_tup, isb_lst, isb_dct, isb_ref, isb_non, isn_int, isn_str, isn_tup, isn_lst, isn_dct, isn_ref, isn_non, isn_bl, c, fin]
theorem close_new {kvs : List (DK × LV)} (hd : Dat n (.dct kvs)) (h7 : n < 8) : finB true L (.ref L.length) (L ++ [.dct kvs]) = .ok (.dct kvs) L := by
  refine fin_t ?_ (frontL_append L _)
  have := closeV_dat (m := L.length) (L := L ++ [.dct kvs]) hd (d := 8) h7
  unfold closeV at this ⊢
  dsimp only at this ⊢
  rw [if_neg (Nat.lt_irrefl _), get_last]
  exact this
theorem copied_dct (hT : Has T "_law_copied" 4 true b_law_copied) {v : LV} {kvs : List (DK × LV)} (hi : biL .isi false [v, .ty "dict"] L = .ok (.bl true) L) (c : ∃ y, f_law_copied_1 (evCall T k) [some v, some (.ref L.length), none, none] (L ++ [.dct []]) = .ok (.next, [some v, some (.ref L.length), y, none]) (L ++ [.dct kvs])) (hd : Dat n (.dct kvs)) (h8 : n < 8) : evCall T (k + 1) "_law_copied" [v] L = .ok (.dct kvs) L := by
  obtain ⟨y, c⟩ := c
  rw [call_of hT]
  unfold b_law_copied
  generalize f_law_copied_1 = C1 at *
  generalize c_law_copied_1 = C2 at *
  generalize c_law_copied_2 = C3 at *
  have fin := close_new (L := L) hd h8
  simp -implicitDefEqProofs only [varE_ev, cE_ev, argsE_nil, argsE_cons, aK1_ok, aK2_ok, tupE_ev, tupK_ok, lstE_ev, lstK_ok, dctE_ev, newL_t, newL_f, newD_t, newD_f, binE_ev, binK1_ok, binK2_ok, idxE_ev, idxK1_ok, idxK2_ok, cmpE_ev, cmpK1_ok, cmpK2_ok, optV_s, optB_s, testB_ev, testK_ok, truE_ev, truK_ok, truO_s, notT_ev, notK_ok, andT_ev, andK_t, andK_f, orT_ev, orK_t, orK_f, andE_ev, andV1_ok, andV2_t, andV2_f, orE_ev, orV1_ok, orV2_t, orV2_f, notE_ev, notV1_ok, notV2_s, negE_ev, negK_ok, ifE_ev, ifV_t, ifV_f, chainE_ev, chK1_ok, chK2_ok, chK3_t, chK3_f, chK4_ok, partE_ev, partK_ok, noE_ev, sliceE_ev, slK1_ok, slK2_ok, slK3_ok, callE_ev, callK_ok, biE_ev, biK_ok, appE_ev, apK2_ok, getE_ev, geK2_ok, get2E_ev, gfK2_ok, gfK3_ok, geO_ok, asgN_ev, asgK_ok, asgT_ev, asgTK_ok, asgO_s, putE_ev, putK1_ok, putK2_ok, putK3_ok, putK4_ok, retE_ev, retK_ok, retN_ev, exprS_ev, exprK_ok, passS_ev, breakS_ev, contS_ev, ifS_ev, ifK_t, ifK_f, blkS_nil, blkS_cons, blkK_n, blkK_r, blkK_b, blkK_c, finK_r, finK_n, stT_nm, stT_tp, stTs_nil, stTs_cons, stO_s, Ev.add_int, Ev.sub_int, mul_intE, div_int, mod_intE, lt_intE, gt_intE, le_intE, ge_intE, eq_intE, ne_intE, eq_strE, ne_strE, eq_blE, ne_blE, is_nonE, is_blE, isnot_nonE, idx_lst, idx_tup, idx_refI, idx_refS, idx_dctI, idx_dctS, setL_lst, setL_str, ix4_0, ix4_1, ix4_2, ix4_3, fin_f, List.map, List.replicate, List.length_cons, List.length_nil, List.nil_append, List.cons_append, List.getElem?_cons_zero, List.getElem?_cons_succ, List.set_cons_zero, List.set_cons_succ, if_true, if_false, decide_true, decide_false, Bool.not_true, Bool.not_false, ite_true, ite_false, Ev.bi_len, lenO_s, bi_int, bi_intb, bi_abs, bi_min, bi_max, bi_gcd, bi_str, tr_bl, tr_int, Nat.sub_self, Nat.zero_add, Nat.reduceAdd, Nat.reduceSub, atI_0, atI_1, atI_2, atI_3, atI_4, Int.reduceNeg, Ev.pow_int, and_self, Bool.false_eq_true, reduceCtorEq, Option.bind_some, Option.bind_none, id_eq, Int.le_refl, Int.lt_irrefl, Int.reduceEq, Int.reduceNe, Int.reduceLT, Int.reduceLE, Int.reducePow, Int.reduceToNat, Int.reduceAbs, Nat.reducePow, Nat.reduceLT, Nat.reduceLeDiff, Nat.reduceEqDiff, Nat.reduceMul, hi, c, fin]
theorem copied_eq (hT : Has T "_law_copied" 4 true b_law_copied) : ∀ (n : Nat) {x : LV}, Dat n x → n < 8 → ∀ (k : Nat) (L : List LO), evCall T (k + n + 1) "_law_copied" [x] L = .ok x L := by
  intro n x h
  induction h with
  | non => intro _ k L; exact copied_leaf hT (.inl rfl)
  | bl b => intro _ k L; exact copied_leaf hT (.inr (.inl ⟨_, rfl⟩))
  | int b => intro _ k L; exact copied_leaf hT (.inr (.inr (.inl ⟨_, rfl⟩)))
  | str b => intro _ k L; exact copied_leaf hT (.inr (.inr (.inr ⟨_, rfl⟩)))
  | @tup n xs h hl ih =>
    intro h8 k L
    exact copied_tup hT (copied_all (fun x hx => ih x hx (by omega) k L) hl rfl (.inr rfl)) (.tup h hl) h8
  | @lst n xs h hl ih =>
    intro h8 k L
    exact copied_lst hT (copied_all (fun x hx => ih x hx (by omega) k L) hl rfl (.inl rfl)) (.lst h hl) h8
  | @dct n kvs h hk hn hl ih =>
    intro h8 k L
    refine copied_dct hT (isi_dct_dict hk) ?_ (.dct h hk hn hl) h8
    unfold f_law_copied_1
    refine for_dct (P := fun r => ∃ y, r = .ok (.next, [some (.dct kvs), some (.ref L.length), y, none]) (L ++ [.dct kvs])) (j := 0) (fun i s L' => (∃ y, s = [some (.dct kvs), some (.ref L.length), y, none]) ∧ L' = L ++ [.dct (kvs.take i)]) rfl hk ⟨⟨none, rfl⟩, rfl⟩ (fun i s L' q u hq hI => ?_) (fun s L' hI => ?_)
    · exact copied_turn (v := .dct kvs) (fun o => rfl) hk hn hl (fun q hq L => ih q hq (by omega) k L) hq hI.1 hI.2
    · obtain ⟨⟨y, rfl⟩, rfl⟩ := hI
      exact ⟨y, by rw [List.take_length]⟩
/-- .. of an object: a dict -/
theorem copied_ref (hT : Has T "_law_copied" 4 true b_law_copied) {a : Nat} {kvs : List (DK × LV)} (ha : L[a]? = some (.dct kvs)) (hd : Dat (n + 1) (.dct kvs)) (h8 : n + 1 < 8) : evCall T (k + n + 2) "_law_copied" [.ref a] L = .ok (.dct kvs) L := by
  have hal := (List.getElem?_eq_some_iff.mp ha).1
  cases hd with
  | dct h hk hn hl =>
    refine copied_dct hT (isi_rd_dict ha hk) ?_ (.dct h hk hn hl) h8
    unfold f_law_copied_1
    have hlen : (L.set a (.lkd kvs)).length = L.length := List.length_set
    refine for_dref (P := fun r => ∃ y, r = .ok (.next, [some (.ref a), some (.ref L.length), y, none]) (L ++ [.dct kvs])) (j := 0) (a := a) (kvs := kvs) (fun i s L' => (∃ y, s = [some (.ref a), some (.ref L.length), y, none]) ∧ L' = L.set a (.lkd kvs) ++ [.dct (kvs.take i)]) rfl (get_front ha) hk ⟨⟨none, rfl⟩, ?_⟩ (fun i s L' q u hq hI => ?_) (fun s L' hI => ?_)
    · rw [List.set_append_left _ _ hal]; rfl
    · have := copied_turn (cb := evCall T (k + n + 1)) (v := .ref a) (H := L.set a (.lkd kvs)) (P := fun r => ∃ z L', r = .ok z L' ∧ L'[a]? = some (.lkd kvs) ∧ ∃ y, (Res.ok z (L'.set a (.dct kvs)) : Res (Fl × Sl)) = .ok (.next, [some (.ref a), some (.ref L.length), y, none]) (L ++ [.dct kvs])) (fun o => by
        unfold dctOf
        dsimp only
        rw [get_front (List.getElem?_set_self hal)]) hk hn hl (fun q hq L => copied_eq hT n (h q hq) (by omega) k L) hq (by rw [hlen]; exact hI.1) hI.2
      rw [hlen] at this
      exact this
    · obtain ⟨⟨y, rfl⟩, rfl⟩ := hI
      refine ⟨get_front (List.getElem?_set_self hal), y, ?_⟩
      rw [List.set_append_left _ _ (by rw [hlen]; exact hal), set_back ha, List.take_length]
end
theorem dctOf_d {L : List LO} {a : Nat} {kvs : List (DK × LV)} (h : L[a]? = some (.dct kvs)) : dctOf L (.ref a) = some kvs := by
  unfold dctOf
  simp only [h]
theorem dctOf_k {L : List LO} {a : Nat} {kvs : List (DK × LV)} (h : L[a]? = some (.lkd kvs)) : dctOf L (.ref a) = some kvs := by
  unfold dctOf
  simp only [h]
/-! ### dicts that are written -/
theorem dput_mem {kvs : List (DK × LV)} {k : DK} {v : LV} {p : DK × LV} (h : p ∈ dput kvs k v) : p = (k, v) ∨ p ∈ kvs := by
  unfold dput at h
  split at h
  · obtain ⟨q, hq, e⟩ := List.mem_map.mp h
    by_cases hk : q.1 = k
    · rw [if_pos hk] at e; left; rw [← e, hk]
    · rw [if_neg hk] at e; right; rw [← e]; exact hq
  · rcases List.mem_append.mp h with h | h
    · exact .inr h
    · left; simpa using h
theorem dput_keys {kvs : List (DK × LV)} {k : DK} {v : LV} : (dput kvs k v).map (·.1) = if (kvs.any fun p => decide (p.1 = k)) = true then kvs.map (·.1) else kvs.map (·.1) ++ [k] := by
  unfold dput
  split
  · rw [List.map_map]
    apply List.map_congr_left
    intro p hp
    show (if p.1 = k then (p.1, v) else p).1 = p.1
    split <;> rfl
  · rw [List.map_append]; rfl
theorem any_key {kvs : List (DK × LV)} {k : DK} : (kvs.any fun p => decide (p.1 = k)) = true ↔ k ∈ kvs.map (·.1) := by
  rw [List.any_eq_true]
  constructor
  · rintro ⟨p, hp, e⟩
    rw [← of_decide_eq_true e]
    exact List.mem_map.mpr ⟨p, hp, rfl⟩
  · intro h
    obtain ⟨p, hp, e⟩ := List.mem_map.mp h
    exact ⟨p, hp, decide_eq_true e⟩
theorem dput_nd {kvs : List (DK × LV)} {k : DK} {v : LV} (h : Nd kvs) : Nd (dput kvs k v) := by
  unfold Nd at *
  rw [dput_keys]
  split
  · exact h
  · rename_i hn
    rw [any_key] at hn
    rw [List.nodup_append]
    exact ⟨h, by simp, fun a ha b hb e => hn (by rw [List.mem_singleton.mp hb] at e; rw [← e]; exact ha)⟩
theorem dput_len {kvs : List (DK × LV)} {k : DK} {v : LV} : (dput kvs k v).length ≤ kvs.length + 1 := by
  have := congrArg List.length (dput_keys (kvs := kvs) (k := k) (v := v))
  rw [List.length_map] at this
  rw [this]
  split
  · rw [List.length_map]; omega
  · rw [List.length_append, List.length_map]; simp
theorem dput_look (kvs : List (DK × LV)) (k j : DK) (v : LV) : dget (dput kvs k v) j = if j = k then some v else dget kvs j := by
  unfold dput
  split
  · rename_i h
    unfold dget
    induction kvs with
    | nil => simp at h
    | cons p t ih =>
      rw [List.map_cons, List.find?_cons, List.find?_cons]
      by_cases hp : p.1 = k
      · rw [if_pos hp]
        by_cases hj : j = k
        · simp [hp, hj]
        · have : ¬ p.1 = j := fun e => hj (by rw [← e, hp])
          simp only [this, decide_false, if_neg hj]
          -- the rest holds no other pair for j
          clear ih h
          induction t with
          | nil => rfl
          | cons q t ih2 =>
            rw [List.map_cons, List.find?_cons, List.find?_cons]
            by_cases hq : q.1 = k
            · rw [if_pos hq]
              have : ¬ q.1 = j := fun e => hj (by rw [← e, hq])
              simp only [this, decide_false]
              exact ih2
            · rw [if_neg hq]
              by_cases hqj : q.1 = j
              · simp [hqj]
              · simp only [hqj, decide_false]
                exact ih2
      · rw [if_neg hp]
        have h' : (t.any fun p => decide (p.1 = k)) = true := by
          rw [List.any_cons, decide_eq_false hp, Bool.false_or] at h
          exact h
        by_cases hj : p.1 = j
        · have : ¬ j = k := fun e => hp (by rw [hj, e])
          simp [hj, this]
        · simp only [hj, decide_false]
          exact ih h'
  · rename_i h
    unfold dget
    rw [List.find?_append]
    by_cases hj : j = k
    · subst hj
      have : kvs.find? (fun p => decide (p.1 = j)) = none := by
        rw [List.find?_eq_none]
        intro p hp e
        exact h (List.any_eq_true.mpr ⟨p, hp, e⟩)
      rw [this, if_pos rfl]
      simp
    · rw [if_neg hj]
      have : ¬ k = j := fun e => hj e.symm
      simp [this]
/-! ### sorted -/
theorem bi_sorted_d {L : List LO} {mu : Bool} {x : LV} {kvs : List (DK × LV)} {ks : List Str} (hx : dctOf L x = some kvs) (hk : keyStrs kvs = some ks) (hl : ks.length < 64) : biL .sorted mu [x] L = newL mu ((sortStr ks).map .str) L := by
  have : biL .sorted mu [x] L = match dctOf L x with
    | some kvs => (match keyStrs kvs with
      | some ks => if ks.length < 64 then newL mu ((sortStr ks).map .str) L else .fail
      | none => .fail)
    | none => match seqOf L x with
      | some xs => match intsOf xs with
        | some ns => newL mu ((sortInt ns).map .int) L
        | none => match strsOf xs with
          | some ks => if ks.length < 64 then newL mu ((sortStr ks).map .str) L else .fail
          | none => .fail
      | none => .fail := by unfold biL; rfl
  rw [this, hx]
  dsimp only
  rw [hk]
  dsimp only
  rw [if_pos hl]
theorem intsOf_map (ns : List Int) : intsOf (ns.map LV.int) = some ns := by
  induction ns with
  | nil => rfl
  | cons n t ih => rw [List.map_cons]; unfold intsOf; rw [ih]; rfl
theorem strsOf_map (ns : List Str) : strsOf (ns.map LV.str) = some ns := by
  induction ns with
  | nil => rfl
  | cons n t ih => rw [List.map_cons]; unfold strsOf; rw [ih]; rfl
theorem bi_sum_i {L : List LO} {mu : Bool} {ns : List Int} : biL .sum mu [.lst (ns.map .int)] L = .ok (.int ns.sum) L := by
  have : biL .sum mu [.lst (ns.map .int)] L = match intsOf (ns.map LV.int) with | some ns => .ok (.int ns.sum) L | none => .fail := by unfold biL seqOf; rfl
  rw [this, intsOf_map]
end Ev

set_option maxHeartbeats 4000000
/-! Ev23: names. -/
namespace Ev
open PySem PySem.Spec PyProof.Rows L2
theorem slice_str {L : List LO} {mu : Bool} {z : Str} {lo hi : Option Int} : sliceL mu (.str z) lo hi L = if z.length ≤ sizeLine then .ok (.str (cutS z lo hi)) L else .fail := by unfold sliceL; rfl
theorem add_strOk {L : List LO} {mu : Bool} {a b : Str} (h : a.length + b.length ≤ sizeLine) : binL .Add mu (.str a) (.str b) L = .ok (.str (a ++ b)) L := by
  rw [add_str, if_pos h]
theorem str_cat (a b : Str) : (a ++ b).cps.toList = a.cps.toList ++ b.cps.toList := by
  show (a.cps ++ b.cps).toList = _
  rw [Array.toList_append]
theorem str_cat_len (a b : Str) : (a ++ b).length = a.length + b.length := by
  show (a.cps ++ b.cps).size = _
  rw [Array.size_append]; rfl
theorem str_len (z : Str) : z.cps.toList.length = z.length := by simp [Str.length]
/-- a sign of a text -/
theorem idx_sign {L : List LO} {z : Str} {v : Int} (h0 : 0 ≤ v) (h1 : v < z.length) (hl : z.length ≤ sizeLine) : ∃ c : Nat, c ∈ z.cps.toList ∧ idxL L (.str z) (.int v) = some (.str ⟨#[c]⟩) := by
  obtain ⟨c, c1, c2⟩ := atI_of (xs := z.cps.toList) h0 (by rw [str_len]; exact h1)
  exact ⟨c, List.mem_of_getElem? c2, by rw [idx_str, if_pos hl, c1]; rfl⟩
def suf (s : Nat) : Str := cutS (toString (100 + (s : Int))) (some 1) none
theorem suf_eq : ∀ s : Fin 100, (suf s.val).cps.toList = [48 + s.val / 10, 48 + s.val % 10] := by decide +kernel
theorem suf_of {s : Nat} (h : s < 100) : (suf s).cps.toList = [48 + s / 10, 48 + s % 10] := suf_eq ⟨s, h⟩
theorem str3 : ∀ s : Fin 100, (Str.ofString (toString (100 + (s.val : Int)))).length = 3 := by decide +kernel
theorem line_big {n : Nat} (h : n ≤ 1000) : n ≤ sizeLine := Nat.le_of_lt (small_line h)
/-- a name with its number behind it -/
structure Nm (s : Nat) (z : Str) : Prop where
  ex : ∃ y : Str, z = y ++ suf s ∧ y.length ≤ 10 ∧ 1 ≤ y.length
section
variable {T : List (Str × FB)}
theorem nameA_eq (h1 : Has T "_law_mixed" 5 false b_law_mixed) (h2 : Has T "_law_rest" 4 false b_law_rest) (h3 : Has T "_law_draw" 3 false b_law_draw) (h4 : Has T "_law_pick" 2 false b_law_pick) (hT : Has T "_law_name" 5 false b_law_nameA) (k : Nat) {b i s : Nat} {p : Pl} {L : List LO} (hL : L[i]? = some p.lo) (hp : PlOk (b + 11) p) (hs : s < 100) :
    ∃ (z : Str) (p' : Pl), Nm s z ∧ PlOk b p' ∧ evCall T (k + 5) "_law_name" [.ref i, .int (s : Int)] L = .ok (.str z) (L.set i p'.lo) := by
  have hi := (List.getElem?_eq_some_iff.mp hL).1
  have hset : ∀ o : LO, (L.set i o)[i]? = some o := fun o => List.getElem?_set_self hi
  have l26 : (("abcdefghijklmnopqrstuvwxyz" : Str)).length = 26 := by decide +kernel
  have l10 : (("0123456789" : Str)).length = 10 := by decide +kernel
  have l36 : (("abcdefghijklmnopqrstuvwxyz" : Str) ++ ("0123456789" : Str)).length = 36 := by rw [str_cat_len, l26, l10]
  obtain ⟨v, p1, v0, v1, hp1, e1⟩ := draw_eq h1 h2 h3 (k + 1) (lim := 26) hL (hp.mono (show b + 10 + 1 ≤ b + 11 by omega)) (by decide) (Nat.lt_of_le_of_lt (lg_lit 10) (by omega))
  obtain ⟨c, -, e2⟩ := idx_sign (L := L.set i p1.lo) (z := "abcdefghijklmnopqrstuvwxyz") v0 (by rw [l26]; exact v1) (line_big (by rw [l26]; omega))
  obtain ⟨w, p2, w1, hp2, e3⟩ := pick_eq h1 h2 h3 h4 k (b := b + 9) (xs := [.int 0, .int 0, .int 1, .int 3, .int 9]) (hset p1.lo) hp1 (by simp) (by simp)
  have hw : ∃ n : Nat, w = .int n ∧ n ≤ 9 := by
    simp only [List.mem_cons, List.not_mem_nil, or_false] at w1
    rcases w1 with rfl | rfl | rfl | rfl | rfl
    · exact ⟨0, rfl, by omega⟩
    · exact ⟨0, rfl, by omega⟩
    · exact ⟨1, rfl, by omega⟩
    · exact ⟨3, rfl, by omega⟩
    · exact ⟨9, rfl, by omega⟩
  obtain ⟨n, rfl, hn⟩ := hw
  rw [List.set_set] at e3
  have ef : callE "_law_pick" [(varE 0), (lstE false [(cE (.int 0)), (cE (.int 0)), (cE (.int 1)), (cE (.int 3)), (cE (.int 9))])] (evCall T (k + 4)) [some (.ref i), some (.int s), some (.str "abcdefghijklmnopqrstuvwxyz"), some (.str ⟨#[c]⟩), none] (L.set i p1.lo) = .ok (.int n) (L.set i p2.lo) := by
    simp -implicitDefEqProofs only [varE_ev, cE_ev, argsE_nil, argsE_cons, aK1_ok, aK2_ok, tupE_ev, tupK_ok, lstE_ev, lstK_ok, dctE_ev, newL_t, newL_f, newD_t, newD_f, binE_ev, binK1_ok, binK2_ok, idxE_ev, idxK1_ok, idxK2_ok, cmpE_ev, cmpK1_ok, cmpK2_ok, optV_s, optB_s, testB_ev, testK_ok, truE_ev, truK_ok, truO_s, notT_ev, notK_ok, andT_ev, andK_t, andK_f, orT_ev, orK_t, orK_f, andE_ev, andV1_ok, andV2_t, andV2_f, orE_ev, orV1_ok, orV2_t, orV2_f, notE_ev, notV1_ok, notV2_s, negE_ev, negK_ok, ifE_ev, ifV_t, ifV_f, chainE_ev, chK1_ok, chK2_ok, chK3_t, chK3_f, chK4_ok, partE_ev, partK_ok, noE_ev, sliceE_ev, slK1_ok, slK2_ok, slK3_ok, callE_ev, callK_ok, biE_ev, biK_ok, appE_ev, apK2_ok, getE_ev, geK2_ok, get2E_ev, gfK2_ok, gfK3_ok, geO_ok, asgN_ev, asgK_ok, asgT_ev, asgTK_ok, asgO_s, putE_ev, putK1_ok, putK2_ok, putK3_ok, putK4_ok, retE_ev, retK_ok, retN_ev, exprS_ev, exprK_ok, passS_ev, breakS_ev, contS_ev, ifS_ev, ifK_t, ifK_f, blkS_nil, blkS_cons, blkK_n, blkK_r, blkK_b, blkK_c, finK_r, finK_n, stT_nm, stT_tp, stTs_nil, stTs_cons, stO_s, Ev.add_int, Ev.sub_int, mul_intE, div_int, mod_intE, lt_intE, gt_intE, le_intE, ge_intE, eq_intE, ne_intE, eq_strE, ne_strE, eq_blE, ne_blE, is_nonE, is_blE, isnot_nonE, idx_lst, idx_tup, idx_refI, idx_refS, idx_dctI, idx_dctS, setL_lst, setL_str, ix4_0, ix4_1, ix4_2, ix4_3, fin_f, List.map, List.replicate, List.length_cons, List.length_nil, List.nil_append, List.cons_append, List.getElem?_cons_zero, List.getElem?_cons_succ, List.set_cons_zero, List.set_cons_succ, if_true, if_false, decide_true, decide_false, Bool.not_true, Bool.not_false, ite_true, ite_false, Ev.bi_len, lenO_s, bi_int, bi_intb, bi_abs, bi_min, bi_max, bi_gcd, bi_str, tr_bl, tr_int, Nat.sub_self, Nat.zero_add, Nat.reduceAdd, Nat.reduceSub, atI_0, atI_1, atI_2, atI_3, atI_4, Int.reduceNeg, Ev.pow_int, and_self, Bool.false_eq_true, reduceCtorEq, Option.bind_some, Option.bind_none, id_eq, Int.le_refl, Int.lt_irrefl, Int.reduceEq, Int.reduceNe, Int.reduceLT, Int.reduceLE, Int.reducePow, Int.reduceToNat, Int.reduceAbs, Nat.reducePow, Nat.reduceLT, Nat.reduceLeDiff, Nat.reduceEqDiff, Nat.reduceMul, e3]
  have loop : ∃ (z : Str) (p' : Pl) (y : Option LV), 1 ≤ z.length ∧ z.length ≤ 10 ∧ PlOk b p' ∧ f_law_nameA_1 (evCall T (k + 4)) [some (.ref i), some (.int s), some (.str "abcdefghijklmnopqrstuvwxyz"), some (.str ⟨#[c]⟩), none] (L.set i p1.lo) =
      .ok (.next, [some (.ref i), some (.int s), some (.str "abcdefghijklmnopqrstuvwxyz"), some (.str z), y]) (L.set i p'.lo) := by
    unfold f_law_nameA_1
    refine for_range (P := fun r => ∃ (z : Str) (p' : Pl) (y : Option LV), 1 ≤ z.length ∧ z.length ≤ 10 ∧ PlOk b p' ∧ r = .ok (.next, [some (.ref i), some (.int s), some (.str "abcdefghijklmnopqrstuvwxyz"), some (.str z), y]) (L.set i p'.lo))
      (fun t s' L' => ∃ (z : Str) (p' : Pl) (y : Option LV), 1 ≤ z.length ∧ z.length ≤ 1 + t ∧ PlOk (b + 9 - t) p' ∧ s' = [some (.ref i), some (.int s), some (.str "abcdefghijklmnopqrstuvwxyz"), some (.str z), y] ∧ L' = L.set i p'.lo) ef (by omega) ⟨⟨#[c]⟩, p2, none, Nat.le_refl 1, Nat.le_refl 1, hp2, rfl, rfl⟩ (fun t s' L' ht hI => ?_) (fun s' L' hI => ?_)
    · obtain ⟨z, q, y, z1, z2, hq, rfl, rfl⟩ := hI
      have ht : t < n := by simpa using ht
      obtain ⟨x, q', x0, x1, hq', e4⟩ := draw_eq h1 h2 h3 (k + 1) (lim := 36) (hset q.lo) (hq.mono (show b + 9 - (t + 1) + 1 ≤ b + 9 - t by omega)) (by decide) (Nat.lt_of_le_of_lt (lg_lit 10) (by omega))
      rw [List.set_set] at e4
      obtain ⟨d, -, e5⟩ := idx_sign (L := L.set i q'.lo) (z := ("abcdefghijklmnopqrstuvwxyz" : Str) ++ ("0123456789" : Str)) x0 (by rw [l36]; exact x1) (line_big (by rw [l36]; omega))
      refine ⟨_, stT_nm, ?_⟩
      have a1 : (("abcdefghijklmnopqrstuvwxyz" : Str)).length + (("0123456789" : Str)).length ≤ sizeLine := line_big (by rw [l26, l10]; omega)
      have a2 : z.length + (⟨#[d]⟩ : Str).length ≤ sizeLine := line_big (by show z.length + 1 ≤ 1000; omega)
      have e : l_law_nameA_1 (evCall T (k + 4)) ([some (.ref i), some (.int s), some (.str "abcdefghijklmnopqrstuvwxyz"), some (.str z), y].set 4 (some (.int t))) (L.set i q.lo)
          = .ok (.next, [some (.ref i), some (.int s), some (.str "abcdefghijklmnopqrstuvwxyz"), some (.str (z ++ ⟨#[d]⟩)), some (.int t)]) (L.set i q'.lo) := by
        unfold l_law_nameA_1
        simp -implicitDefEqProofs only [varE_ev, cE_ev, argsE_nil, argsE_cons, aK1_ok, aK2_ok, tupE_ev, tupK_ok, lstE_ev, lstK_ok, dctE_ev, newL_t, newL_f, newD_t, newD_f, binE_ev, binK1_ok, binK2_ok, idxE_ev, idxK1_ok, idxK2_ok, cmpE_ev, cmpK1_ok, cmpK2_ok, optV_s, optB_s, testB_ev, testK_ok, truE_ev, truK_ok, truO_s, notT_ev, notK_ok, andT_ev, andK_t, andK_f, orT_ev, orK_t, orK_f, andE_ev, andV1_ok, andV2_t, andV2_f, orE_ev, orV1_ok, orV2_t, orV2_f, notE_ev, notV1_ok, notV2_s, negE_ev, negK_ok, ifE_ev, ifV_t, ifV_f, chainE_ev, chK1_ok, chK2_ok, chK3_t, chK3_f, chK4_ok, partE_ev, partK_ok, noE_ev, sliceE_ev, slK1_ok, slK2_ok, slK3_ok, callE_ev, callK_ok, biE_ev, biK_ok, appE_ev, apK2_ok, getE_ev, geK2_ok, get2E_ev, gfK2_ok, gfK3_ok, geO_ok, asgN_ev, asgK_ok, asgT_ev, asgTK_ok, asgO_s, putE_ev, putK1_ok, putK2_ok, putK3_ok, putK4_ok, retE_ev, retK_ok, retN_ev, exprS_ev, exprK_ok, passS_ev, breakS_ev, contS_ev, ifS_ev, ifK_t, ifK_f, blkS_nil, blkS_cons, blkK_n, blkK_r, blkK_b, blkK_c, finK_r, finK_n, stT_nm, stT_tp, stTs_nil, stTs_cons, stO_s, Ev.add_int, Ev.sub_int, mul_intE, div_int, mod_intE, lt_intE, gt_intE, le_intE, ge_intE, eq_intE, ne_intE, eq_strE, ne_strE, eq_blE, ne_blE, is_nonE, is_blE, isnot_nonE, idx_lst, idx_tup, idx_refI, idx_refS, idx_dctI, idx_dctS, setL_lst, setL_str, ix4_0, ix4_1, ix4_2, ix4_3, fin_f, List.map, List.replicate, List.length_cons, List.length_nil, List.nil_append, List.cons_append, List.getElem?_cons_zero, List.getElem?_cons_succ, List.set_cons_zero, List.set_cons_succ, if_true, if_false, decide_true, decide_false, Bool.not_true, Bool.not_false, ite_true, ite_false, Ev.bi_len, lenO_s, bi_int, bi_intb, bi_abs, bi_min, bi_max, bi_gcd, bi_str, tr_bl, tr_int, Nat.sub_self, Nat.zero_add, Nat.reduceAdd, Nat.reduceSub, atI_0, atI_1, atI_2, atI_3, atI_4, Int.reduceNeg, Ev.pow_int, and_self, Bool.false_eq_true, reduceCtorEq, Option.bind_some, Option.bind_none, id_eq, Int.le_refl, Int.lt_irrefl, Int.reduceEq, Int.reduceNe, Int.reduceLT, Int.reduceLE, Int.reducePow, Int.reduceToNat, Int.reduceAbs, Nat.reducePow, Nat.reduceLT, Nat.reduceLeDiff, Nat.reduceEqDiff, Nat.reduceMul, add_strOk a1, e4, e5, add_strOk a2]
      rw [e]
      refine .next ⟨_, q', _, ?_, ?_, hq', rfl, rfl⟩
      · rw [str_cat_len]; omega
      · rw [str_cat_len]; show z.length + 1 ≤ _; omega
    · obtain ⟨z, q, y, z1, z2, hq, rfl, rfl⟩ := hI
      have z2 : z.length ≤ 1 + n := by simpa using z2
      exact ⟨z, q, y, z1, by omega, hq.mono (by simp; omega), rfl⟩
  obtain ⟨z, p', y, z1, z2, hp', e⟩ := loop
  have zc : (cutS z none (some 10)) = z := by
    unfold cutS
    rw [HT.sIx_none, show HT.sIx z.length z.length (some 10) = min 10 z.length from HT.sIx_nat _ _ 10]
    have : z.cps.toList.length = z.length := str_len z
    rw [List.drop_zero, List.take_of_length_le (by omega)]
  refine ⟨z ++ suf s, p', ⟨z, rfl, z2, z1⟩, hp', ?_⟩
  have b1 : z.length ≤ sizeLine := line_big (by omega)
  have l3 := str3 ⟨s, hs⟩
  have b2 : (Str.ofString (toString (100 + (s : Int)))).length ≤ sizeLine := line_big (by rw [l3]; omega)
  have b3 : (100 + (s : Int)).natAbs.log2 < 1920 := Nat.lt_of_le_of_lt (show lg (100 + (s : Int)) ≤ 20 from lg_of (by omega)) (by omega)
  have b4 : z.length + (suf s).length ≤ sizeLine := line_big (by
    have : (suf s).length = 2 := by rw [← str_len, suf_of hs]; rfl
    omega)
  have b5 : cutS (Str.ofString (toString (100 + (s : Int)))) (some 1) none = suf s := rfl
  rw [call_of hT]
  unfold b_law_nameA
  generalize f_law_nameA_1 = C1 at *
  simp -implicitDefEqProofs only [varE_ev, cE_ev, argsE_nil, argsE_cons, aK1_ok, aK2_ok, tupE_ev, tupK_ok, lstE_ev, lstK_ok, dctE_ev, newL_t, newL_f, newD_t, newD_f, binE_ev, binK1_ok, binK2_ok, idxE_ev, idxK1_ok, idxK2_ok, cmpE_ev, cmpK1_ok, cmpK2_ok, optV_s, optB_s, testB_ev, testK_ok, truE_ev, truK_ok, truO_s, notT_ev, notK_ok, andT_ev, andK_t, andK_f, orT_ev, orK_t, orK_f, andE_ev, andV1_ok, andV2_t, andV2_f, orE_ev, orV1_ok, orV2_t, orV2_f, notE_ev, notV1_ok, notV2_s, negE_ev, negK_ok, ifE_ev, ifV_t, ifV_f, chainE_ev, chK1_ok, chK2_ok, chK3_t, chK3_f, chK4_ok, partE_ev, partK_ok, noE_ev, sliceE_ev, slK1_ok, slK2_ok, slK3_ok, callE_ev, callK_ok, biE_ev, biK_ok, appE_ev, apK2_ok, getE_ev, geK2_ok, get2E_ev, gfK2_ok, gfK3_ok, geO_ok, asgN_ev, asgK_ok, asgT_ev, asgTK_ok, asgO_s, putE_ev, putK1_ok, putK2_ok, putK3_ok, putK4_ok, retE_ev, retK_ok, retN_ev, exprS_ev, exprK_ok, passS_ev, breakS_ev, contS_ev, ifS_ev, ifK_t, ifK_f, blkS_nil, blkS_cons, blkK_n, blkK_r, blkK_b, blkK_c, finK_r, finK_n, stT_nm, stT_tp, stTs_nil, stTs_cons, stO_s, Ev.add_int, Ev.sub_int, mul_intE, div_int, mod_intE, lt_intE, gt_intE, le_intE, ge_intE, eq_intE, ne_intE, eq_strE, ne_strE, eq_blE, ne_blE, is_nonE, is_blE, isnot_nonE, idx_lst, idx_tup, idx_refI, idx_refS, idx_dctI, idx_dctS, setL_lst, setL_str, ix4_0, ix4_1, ix4_2, ix4_3, fin_f, List.map, List.replicate, List.length_cons, List.length_nil, List.nil_append, List.cons_append, List.getElem?_cons_zero, List.getElem?_cons_succ, List.set_cons_zero, List.set_cons_succ, if_true, if_false, decide_true, decide_false, Bool.not_true, Bool.not_false, ite_true, ite_false, Ev.bi_len, lenO_s, bi_int, bi_intb, bi_abs, bi_min, bi_max, bi_gcd, bi_str, tr_bl, tr_int, Nat.sub_self, Nat.zero_add, Nat.reduceAdd, Nat.reduceSub, atI_0, atI_1, atI_2, atI_3, atI_4, Int.reduceNeg, Ev.pow_int, and_self, Bool.false_eq_true, reduceCtorEq, Option.bind_some, Option.bind_none, id_eq, Int.le_refl, Int.lt_irrefl, Int.reduceEq, Int.reduceNe, Int.reduceLT, Int.reduceLE, Int.reducePow, Int.reduceToNat, Int.reduceAbs, Nat.reducePow, Nat.reduceLT, Nat.reduceLeDiff, Nat.reduceEqDiff, Nat.reduceMul, e1, e2, e, slice_str, b1, zc, b3, b2, b5, add_strOk b4]
end
end Ev

set_option maxHeartbeats 4000000
/-! Ev24: lists wherever they stand; zip; rows of fractions. -/
namespace Ev
open PySem PySem.Spec PyProof.Rows
open L2 (atI cutS)
section
variable {L : List LO} {mu : Bool} {v : LV} {xs : List LV}
theorem seqOf_lst : seqOf L (.lst xs) = some xs := rfl
theorem seqOf_ref {a : Nat} (h : L[a]? = some (.lst xs)) : seqOf L (.ref a) = some xs := by unfold seqOf; dsimp only; rw [h]
theorem seqOf_inv (h : seqOf L v = some xs) : v = .lst xs ∨ ∃ a, v = .ref a ∧ L[a]? = some (.lst xs) := by
  unfold seqOf at h
  split at h
  · cases h; exact .inl rfl
  · rename_i a
    split at h
    · rename_i ys hy
      cases h; exact .inr ⟨a, rfl, hy⟩
    · cases h
  · cases h
theorem items_seq (h : seqOf L v = some xs) : itemsOf L v = some xs := by
  rcases seqOf_inv h with rfl | ⟨a, rfl, _⟩
  · rfl
  · exact h
theorem dct_seq (h : seqOf L v = some xs) : dctOf L v = none := by
  rcases seqOf_inv h with rfl | ⟨a, rfl, hr⟩
  · rfl
  · unfold dctOf; dsimp only; rw [hr]
theorem len_seq (h : seqOf L v = some xs) : lenL L v = some xs.length := by
  rcases seqOf_inv h with rfl | ⟨a, rfl, hr⟩
  · exact len_lst
  · exact len_ref hr
theorem idx_seq (h : seqOf L v = some xs) (i : Int) : idxL L v (.int i) = atI xs i := by
  rcases seqOf_inv h with rfl | ⟨a, rfl, hr⟩
  · exact idx_lst
  · rw [idx_refI, hr]
theorem idx_seqN (h : seqOf L v = some xs) (i : Nat) : idxL L v (.int i) = xs[i]? := by rw [idx_seq h, atI_nat]
theorem bi_list_s (h : itemsOf L v = some xs) : biL .list mu [v] L = newL mu xs L := by unfold biL; dsimp only; rw [h]
theorem bi_tuple_s (h : seqOf L v = some xs) : biL .tuple mu [v] L = .ok (.tup xs) L := by
  rcases seqOf_inv h with rfl | ⟨a, rfl, hr⟩
  · unfold biL; rfl
  · unfold biL; dsimp only; unfold seqOf; dsimp only; rw [hr]
theorem blsOf_map (bs : List Bool) : blsOf (bs.map LV.bl) = some bs := by
  induction bs with
  | nil => rfl
  | cons b t ih => rw [List.map_cons]; unfold blsOf; rw [ih]; rfl
theorem bi_all_s {bs : List Bool} (h : seqOf L v = some (bs.map .bl)) : biL .all mu [v] L = .ok (.bl (bs.all id)) L := by
  unfold biL; dsimp only; rw [h]; dsimp only; rw [blsOf_map]
theorem bi_any_s {bs : List Bool} (h : seqOf L v = some (bs.map .bl)) : biL .any mu [v] L = .ok (.bl (bs.any id)) L := by
  unfold biL; dsimp only; rw [h]; dsimp only; rw [blsOf_map]
theorem add_seq {w : LV} {ys : List LV} (hl : xs.length + ys.length ≤ sizeLine) (h : seqOf L v = some xs) (h' : seqOf L w = some ys) : binL .Add mu v w L = newL mu (xs ++ ys) L := by
  show addL mu v w L = _
  rcases seqOf_inv h with rfl | ⟨a, rfl, h1⟩
  · rcases seqOf_inv h' with rfl | ⟨b, rfl, h2⟩
    · unfold addL; simp only [seqOf, hl, if_true]
    · unfold addL; simp only [seqOf, h2, hl, if_true]
  · rcases seqOf_inv h' with rfl | ⟨b, rfl, h2⟩
    · unfold addL; simp only [seqOf, h1, hl, if_true]
    · unfold addL; simp only [seqOf, h1, h2, hl, if_true]
theorem slice_seq {lo hi : Option Int} (h : seqOf L v = some xs) : sliceL mu v lo hi L = newL mu (cutG xs lo hi) L := by
  rcases seqOf_inv h with rfl | ⟨a, rfl, h1⟩
  · unfold sliceL; simp only [seqOf]
  · unfold sliceL; simp only [seqOf, h1]
theorem cutG_take {α : Type} {xs : List α} {n : Nat} (h : n ≤ xs.length) : cutG xs none (some (n : Int)) = xs.take n := by
  unfold cutG
  rw [HT.sIx_none, HT.sIx_nat, List.drop_zero, Nat.sub_zero, Nat.min_eq_left h]
theorem cutG_drop {α : Type} {xs : List α} {n : Nat} (h : n ≤ xs.length) : cutG xs (some (n : Int)) none = xs.drop n := by
  unfold cutG
  rw [HT.sIx_none, HT.sIx_nat, Nat.min_eq_left h, ← List.length_drop, List.take_length]
theorem cutG_front {α : Type} {xs : List α} : cutG xs none (some (-1)) = xs.take (xs.length - 1) := by
  unfold cutG
  rw [HT.sIx_none, List.drop_zero, Nat.sub_zero]
  congr 1
  have e : HT.sIx xs.length xs.length (some (-1)) = ((-1 : Int) + (xs.length : Int)).toNat := rfl
  rw [e]
  omega
end
section
variable {L : List LO} {mu : Bool} {v : LV} {xs : List LV}
theorem isi_s_list (h : seqOf L v = some xs) : biL .isi mu [v, .ty "list"] L = .ok (.bl true) L := by
  rcases seqOf_inv h with rfl | ⟨a, rfl, hr⟩
  · exact isi_lst_list
  · exact isi_rl_list hr
theorem isi_s_tuple (h : seqOf L v = some xs) : biL .isi mu [v, .ty "tuple"] L = .ok (.bl false) L := by
  rcases seqOf_inv h with rfl | ⟨a, rfl, hr⟩
  · exact isi_lst_tuple
  · exact isi_rl_tuple hr
theorem isi_s_dict (h : seqOf L v = some xs) : biL .isi mu [v, .ty "dict"] L = .ok (.bl false) L := by
  rcases seqOf_inv h with rfl | ⟨a, rfl, hr⟩
  · exact isi_lst_dict
  · exact isi_rl_dict hr
theorem isi_s_int (h : seqOf L v = some xs) : biL .isi mu [v, .ty "int"] L = .ok (.bl false) L := by
  rcases seqOf_inv h with rfl | ⟨a, rfl, hr⟩
  · exact isi_lst_int
  · exact isi_rl_int hr
theorem isi_s_str (h : seqOf L v = some xs) : biL .isi mu [v, .ty "str"] L = .ok (.bl false) L := by
  rcases seqOf_inv h with rfl | ⟨a, rfl, hr⟩
  · exact isi_lst_str
  · exact isi_rl_str hr
theorem isb_s {b : Bool} (h : seqOf L v = some xs) : cmpL .Is L v (.bl b) = some false := by
  rcases seqOf_inv h with rfl | ⟨a, rfl, hr⟩
  · exact isb_lst
  · exact isb_ref
theorem isn_s (h : seqOf L v = some xs) : isNon v = false := by
  rcases seqOf_inv h with rfl | ⟨a, rfl, hr⟩ <;> rfl
end
/-! ### walks -/
section
variable {cb : CB} {t : Tg} {body : LSt} {ft : LT} {fe : LE} {s : Sl}
theorem valS_seq {f : LE} {L L1 : List LO} {v : LV} {xs : List LV} (hf : f cb s L = .ok v L1) (h : seqOf L1 v = some xs) : ∃ w, valS f cb s L = .ok w L1 ∧ w.fuel = xs.length + 1 ∧ ∀ L', seqOf L' v = some xs → ∀ j, w.get j L' = some xs[j]? := by
  unfold valS
  rw [hf, Res.bind_ok]
  rcases seqOf_inv h with rfl | ⟨a, rfl, hr⟩
  · exact ⟨_, rfl, rfl, fun _ _ _ => rfl⟩
  · unfold walkL
    dsimp only
    rw [hr]
    refine ⟨_, rfl, rfl, fun L' h' j => ?_⟩
    rcases seqOf_inv h' with e | ⟨b, e, h'⟩
    · cases e
    · cases e
      show (match L'[a]? with | some (.lst xs) => some (xs[j]?.map (idMk j)) | _ => none) = _
      rw [h']
      show some (xs[j]?.map id) = _
      rw [Option.map_id]; rfl
theorem forN_val {i : Nat} {L : List LO} {v : LV} {xs : List LV} (hs : s[i]? = some (some v)) (h : seqOf L v = some xs) : forN i t body cb s L = forE (valS (varE i)) t body cb s L := by
  unfold forN
  rw [hs]
  rcases seqOf_inv h with rfl | ⟨a, rfl, hr⟩
  · rfl
  · dsimp only; rw [hr]
theorem forE_seq {P : Res (Fl × Sl) → Prop} (Inv : Nat → Sl → List LO → Prop) {f : LE} {L L1 : List LO} {v : LV} {xs : List LV} (hf : f cb s L = .ok v L1) (h : seqOf L1 v = some xs) (h0 : Inv 0 s L1)
    (keep : ∀ i s L, Inv i s L → seqOf L v = some xs)
    (hstep : ∀ i s L x, xs[i]? = some x → Inv i s L → ∃ s1, stT t x s = some s1 ∧ Turn (Inv (i + 1)) P (body cb s1 L))
    (hend : ∀ s L, Inv xs.length s L → P (.ok (.next, s) L)) : P (forE (valS f) t body cb s L) := by
  obtain ⟨w, e1, e2, e3⟩ := valS_seq (cb := cb) hf h
  unfold forE
  rw [e1, Res.bind_ok, e2]
  refine loop_all (n := xs.length) Inv h0 (fun i s L hi h => ?_) (fun s L h => ⟨?_, hend s L h⟩)
  · obtain ⟨s1, h1, h2⟩ := hstep i s L xs[i] (List.getElem?_eq_getElem hi) h
    exact ⟨xs[i], s1, by rw [e3 L (keep _ _ _ h), List.getElem?_eq_getElem hi], h1, h2⟩
  · rw [e3 L (keep _ _ _ h), List.getElem?_eq_none (Nat.le_refl _)]
theorem forN_seq {P : Res (Fl × Sl) → Prop} (Inv : Nat → Sl → List LO → Prop) {j : Nat} {L : List LO} {v : LV} {xs : List LV} (hs : s[j]? = some (some v)) (h : seqOf L v = some xs) (h0 : Inv 0 s L)
    (keep : ∀ i s L, Inv i s L → seqOf L v = some xs)
    (hstep : ∀ i s L x, xs[i]? = some x → Inv i s L → ∃ s1, stT t x s = some s1 ∧ Turn (Inv (i + 1)) P (body cb s1 L))
    (hend : ∀ s L, Inv xs.length s L → P (.ok (.next, s) L)) : P (forN j t body cb s L) := by
  rw [forN_val hs h]
  exact forE_seq Inv (by rw [varE_ev, hs]; rfl) h h0 keep hstep hend
theorem zipS_ev {f g : LE} {L L1 L2 : List LO} {v w : LV} {xs ys : List LV} (hf : f cb s L = .ok v L1) (hg : g cb s L1 = .ok w L2) (h : itemsOf L2 v = some xs) (h' : itemsOf L2 w = some ys) : zipS f g cb s L = .ok (zipG v w xs.length) L2 := by
  unfold zipS
  rw [argsE_cons, hf, aK1_ok, argsE_cons, hg, aK1_ok, argsE_nil, aK2_ok, aK2_ok, Res.bind_ok]
  simp only [h, h']
theorem zip_get {L : List LO} {v w : LV} {n j : Nat} {xs ys : List LV} {x y : LV} (h : itemsOf L v = some xs) (h' : itemsOf L w = some ys) (hx : xs[j]? = some x) (hy : ys[j]? = some y) : (zipG v w n).get j L = some (some (.tup [x, y])) := by
  show zipGo (itemsOf L v) (itemsOf L w) j = _
  unfold zipGo
  simp only [h, h', hx, hy]
theorem zip_fin {L : List LO} {v w : LV} {n : Nat} {xs ys : List LV} (h : itemsOf L v = some xs) (h' : itemsOf L w = some ys) (hl : ys.length = xs.length) : (zipG v w n).get xs.length L = some none := by
  show zipGo (itemsOf L v) (itemsOf L w) xs.length = _
  unfold zipGo
  simp only [h, h', List.getElem?_eq_none (Nat.le_refl xs.length), List.getElem?_eq_none (show ys.length ≤ xs.length by omega)]
theorem for_zip {P : Res (Fl × Sl) → Prop} (Inv : Nat → Sl → List LO → Prop) {f g : LE} {L L1 L2 : List LO} {v w : LV} {xs ys : List LV} (hf : f cb s L = .ok v L1) (hg : g cb s L1 = .ok w L2) (h : itemsOf L2 v = some xs) (h' : itemsOf L2 w = some ys) (hl : ys.length = xs.length) (h0 : Inv 0 s L2)
    (keep : ∀ i s L, Inv i s L → itemsOf L v = some xs ∧ itemsOf L w = some ys)
    (hstep : ∀ i s L x y, xs[i]? = some x → ys[i]? = some y → Inv i s L → ∃ s1, stT t (.tup [x, y]) s = some s1 ∧ Turn (Inv (i + 1)) P (body cb s1 L))
    (hend : ∀ s L, Inv xs.length s L → P (.ok (.next, s) L)) : P (forE (zipS f g) t body cb s L) := by
  unfold forE
  rw [zipS_ev hf hg h h', Res.bind_ok]
  refine loop_all (n := xs.length) Inv h0 (fun i s L hi q => ?_) (fun s L q => ⟨?_, hend s L q⟩)
  · obtain ⟨k1, k2⟩ := keep _ _ _ q
    have hy : ys[i]? = some (ys[i]'(by omega)) := List.getElem?_eq_getElem _
    obtain ⟨s1, h1, h2⟩ := hstep i s L xs[i] _ (List.getElem?_eq_getElem hi) hy q
    exact ⟨_, s1, zip_get k1 k2 (List.getElem?_eq_getElem hi) hy, h1, h2⟩
  · obtain ⟨k1, k2⟩ := keep _ _ _ q
    exact zip_fin k1 k2 hl
/-- a comprehension that changes nothing, its list given -/
theorem lcX_list {w : Src} {own : List Nat} {mu : Bool} {L : List LO} (zs : List LV) (hf : w.fuel = zs.length + 1) (hl : zs.length < sizeLine) (he : w.get zs.length L = some none)
    (h : ∀ (i : Nat) z, zs[i]? = some z → ∃ x s1, w.get i L = some (some x) ∧ stT t x (wipeL s own) = some s1 ∧ ft cb s1 L = .ok true L ∧ fe cb s1 L = .ok z L) : lcX w t ft fe own mu cb s L = newL mu zs L := by
  obtain ⟨ys, L', e, h1, h2⟩ := lcW_gen (get := w.get) (t := t) (ft := ft) (fe := fe) (cb := cb) (s := wipeL s own) (fun i ys L' => ys = zs.take i ∧ L' = L) (n := zs.length) (fun i ys L' hi hI => by
    obtain ⟨rfl, rfl⟩ := hI
    obtain ⟨x, s1, a1, a2, a3, a4⟩ := h i zs[i] (List.getElem?_eq_getElem hi)
    refine ⟨x, s1, a1, a2, true, L', a3, zs[i], L', a4, ?_, rfl⟩
    rw [List.take_add_one, List.getElem?_eq_getElem hi]; rfl) (fun ys L' hI => by
    obtain ⟨_, rfl⟩ := hI
    exact he) zs.length 0 (by omega) (ys := []) ⟨rfl, rfl⟩
  rw [List.nil_append, List.take_length] at h1
  subst h1; subst h2
  unfold lcX
  rw [hf, e, Res.bind_ok]
  exact if_pos hl
theorem lcE_src {src : LSrc} {own : List Nat} {mu : Bool} {L L1 : List LO} {w : Src} (h : src cb s L = .ok w L1) : lcE src t ft fe own mu cb s L = lcX w t ft fe own mu cb s L1 := by
  unfold lcE
  rw [h, Res.bind_ok]
theorem lcN_vals {i : Nat} {own : List Nat} {mu : Bool} {L : List LO} {v : LV} {xs : List LV} (hs : s[i]? = some (some v)) (h : seqOf L v = some xs) : lcN i t ft fe own mu cb s L = lcE (valS (varE i)) t ft fe own mu cb s L := by
  unfold lcN overN
  rw [hs]
  rcases seqOf_inv h with rfl | ⟨a, rfl, hr⟩
  · rfl
  · dsimp only; rw [hr]
/-- over a list: of each x of xs a z -/
theorem lc_seq {f : LE} {own : List Nat} {mu : Bool} {L L1 : List LO} {v : LV} {xs zs : List LV} (hf : f cb s L = .ok v L1) (hv : seqOf L1 v = some xs) (hl : zs.length = xs.length) (hs : xs.length < sizeLine)
    (h : ∀ (i : Nat) x z, xs[i]? = some x → zs[i]? = some z → ∃ s1, stT t x (wipeL s own) = some s1 ∧ ft cb s1 L1 = .ok true L1 ∧ fe cb s1 L1 = .ok z L1) : lcE (valS f) t ft fe own mu cb s L = newL mu zs L1 := by
  obtain ⟨w, e1, e2, e3⟩ := valS_seq (cb := cb) hf hv
  rw [lcE_src e1]
  refine lcX_list zs (by rw [e2, hl]) (by omega) (by rw [e3 _ hv, hl, List.getElem?_eq_none (Nat.le_refl _)]) fun i z hz => ?_
  have hi : i < xs.length := by have := (List.getElem?_eq_some_iff.mp hz).1; omega
  obtain ⟨s1, a1, a2, a3⟩ := h i xs[i] z (List.getElem?_eq_getElem hi) hz
  exact ⟨_, s1, by rw [e3 _ hv, List.getElem?_eq_getElem hi], a1, a2, a3⟩
theorem lc_name {i : Nat} {own : List Nat} {mu : Bool} {L : List LO} {v : LV} {xs zs : List LV} (hi : s[i]? = some (some v)) (hv : seqOf L v = some xs) (hl : zs.length = xs.length) (hs : xs.length < sizeLine)
    (h : ∀ (i : Nat) x z, xs[i]? = some x → zs[i]? = some z → ∃ s1, stT t x (wipeL s own) = some s1 ∧ ft cb s1 L = .ok true L ∧ fe cb s1 L = .ok z L) : lcN i t ft fe own mu cb s L = newL mu zs L := by
  rw [lcN_vals hi hv]
  exact lc_seq (by rw [varE_ev, hi]; rfl) hv hl hs h
theorem lc_zip {f g : LE} {own : List Nat} {mu : Bool} {L L1 L2 : List LO} {v w : LV} {xs ys zs : List LV} (hf : f cb s L = .ok v L1) (hg : g cb s L1 = .ok w L2) (hv : itemsOf L2 v = some xs) (hw : itemsOf L2 w = some ys) (hl : ys.length = xs.length) (hz : zs.length = xs.length) (hs : xs.length < sizeLine)
    (h : ∀ (i : Nat) x y z, xs[i]? = some x → ys[i]? = some y → zs[i]? = some z → ∃ s1, stT t (.tup [x, y]) (wipeL s own) = some s1 ∧ ft cb s1 L2 = .ok true L2 ∧ fe cb s1 L2 = .ok z L2) : lcE (zipS f g) t ft fe own mu cb s L = newL mu zs L2 := by
  rw [lcE_src (zipS_ev hf hg hv hw)]
  refine lcX_list zs (by rw [hz]; rfl) (by omega) (by rw [hz]; exact zip_fin hv hw hl) fun i z e => ?_
  have hi : i < xs.length := by have := (List.getElem?_eq_some_iff.mp e).1; omega
  have hy : ys[i]? = some (ys[i]'(by omega)) := List.getElem?_eq_getElem _
  obtain ⟨s1, a1, a2, a3⟩ := h i xs[i] _ z (List.getElem?_eq_getElem hi) hy e
  exact ⟨_, s1, zip_get hv hw (List.getElem?_eq_getElem hi) hy, a1, a2, a3⟩
theorem lc_rng {f : LE} {own : List Nat} {mu : Bool} {L L1 : List LO} {n : Nat} {zs : List LV} (hf : f cb s L = .ok (.int n) L1) (hl : zs.length = n) (hs : n < sizeLine)
    (h : ∀ (i : Nat) z, i < n → zs[i]? = some z → ∃ s1, stT t (.int i) (wipeL s own) = some s1 ∧ ft cb s1 L1 = .ok true L1 ∧ fe cb s1 L1 = .ok z L1) : lcE (rngS [f]) t ft fe own mu cb s L = newL mu zs L1 := by
  have h62 : sizeLine < 2 ^ 62 := by decide
  rw [lcE_rng hf (by omega) (by omega), Int.toNat_natCast]
  refine lcX_list zs (by rw [hl]; show (rangeL 0 n).length + 1 = _; rw [rangeL_length]) (by omega) ?_ fun i z e => ?_
  · show some (rangeL 0 n)[zs.length]? = _
    rw [List.getElem?_eq_none (by rw [rangeL_length, hl]; exact Nat.le_refl _)]
  · have hi := (List.getElem?_eq_some_iff.mp e).1
    obtain ⟨s1, a1, a2, a3⟩ := h i z (by omega) e
    refine ⟨.int i, s1, ?_, a1, a2, a3⟩
    show some (rangeL 0 n)[i]? = _
    unfold rangeL
    rw [List.getElem?_map, List.getElem?_range (by omega)]
    simp
end
/-! ### rows of fractions -/
section
variable {L : List LO}
theorem toPD_fr (q : Rat) : toPD L (fr q) = some (.tuple [.int q.num, .int (q.den : Int)]) := rfl
theorem eqv_fr (a b : Rat) : PyData.eqv (.tuple [.int a.num, .int (a.den : Int)]) (.tuple [.int b.num, .int (b.den : Int)]) = decide (a = b) := by
  have : PyData.eqv (.tuple [.int a.num, .int (a.den : Int)]) (.tuple [.int b.num, .int (b.den : Int)]) = (decide (a.num = b.num) && (decide ((a.den : Int) = (b.den : Int)) && true)) := rfl
  rw [this]
  by_cases h : a = b
  · subst h; simp
  · rw [decide_eq_false h]
    by_cases h1 : a.num = b.num
    · by_cases h2 : (a.den : Int) = (b.den : Int)
      · exact absurd (Rat.ext h1 (by omega)) h
      · simp only [decide_eq_false h2, Bool.false_and, Bool.and_false]
    · simp only [decide_eq_false h1, Bool.false_and]
theorem eq_fr (a b : Rat) : cmpL .Eq L (fr a) (fr b) = some (decide (a = b)) := by
  show eqL L (fr a) (fr b) = _
  unfold eqL
  rw [toPD_fr, toPD_fr]
  show (if _ then some (PyData.eqv _ _) else _) = _
  rw [if_pos (Nat.le_of_ble_eq_true rfl), eqv_fr]
theorem ne_fr (a b : Rat) : cmpL .NotEq L (fr a) (fr b) = some (!decide (a = b)) := by
  show (eqL L (fr a) (fr b)).map (!·) = _
  rw [show eqL L (fr a) (fr b) = _ from eq_fr (L := L) a b]; rfl
/-- a list of fractions, wherever it stands (but not at 0: there is the pool) -/
def Row (L : List LO) (v : LV) (fs : List Rat) : Prop := seqOf L v = some (fs.map fr) ∧ v ≠ .ref 0
/-- a list of such -/
def Mat (L : List LO) (v : LV) (rs : List (List Rat)) : Prop := (∃ vs, seqOf L v = some vs ∧ vs.length = rs.length ∧ ∀ (i : Nat) u r, vs[i]? = some u → rs[i]? = some r → Row L u r) ∧ v ≠ .ref 0
theorem Row.len {v : LV} {fs : List Rat} (h : Row L v fs) : lenL L v = some fs.length := by rw [len_seq h.1, List.length_map]
theorem Row.at {v : LV} {fs : List Rat} (h : Row L v fs) {i : Nat} {q : Rat} (hq : fs[i]? = some q) : idxL L v (.int i) = some (fr q) := by rw [idx_seqN h.1, List.getElem?_map, hq]; rfl
theorem Row.lst (fs : List Rat) : Row L (.lst (fs.map fr)) fs := ⟨rfl, fun e => by cases e⟩
theorem Mat.len {v : LV} {rs : List (List Rat)} (h : Mat L v rs) : lenL L v = some rs.length := by
  obtain ⟨⟨vs, h1, h2, _⟩, _⟩ := h
  rw [len_seq h1, h2]
theorem Mat.at {v : LV} {rs : List (List Rat)} (h : Mat L v rs) {i : Nat} {r : List Rat} (hr : rs[i]? = some r) : ∃ u, idxL L v (.int i) = some u ∧ Row L u r := by
  obtain ⟨⟨vs, h1, h2, h3⟩, _⟩ := h
  have hi := (List.getElem?_eq_some_iff.mp hr).1
  exact ⟨vs[i], by rw [idx_seqN h1, List.getElem?_eq_getElem (by omega)], h3 i _ r (List.getElem?_eq_getElem (by omega)) hr⟩
/-- L's lists stand in L', but for the one at 0 -/
def Keep (L L' : List LO) : Prop := ∀ a xs, a ≠ 0 → L[a]? = some (.lst xs) → L'[a]? = some (.lst xs)
theorem Keep.refl : Keep L L := fun _ _ _ h => h
theorem Keep.trans {L1 L2 L3 : List LO} (a : Keep L1 L2) (b : Keep L2 L3) : Keep L1 L3 := fun i xs c h => b i xs c (a i xs c h)
theorem seq_keep {L' : List LO} {v : LV} {xs : List LV} (h : seqOf L v = some xs) (h0 : v ≠ .ref 0) (k : Keep L L') : seqOf L' v = some xs := by
  rcases seqOf_inv h with rfl | ⟨a, rfl, hr⟩
  · rfl
  · exact seqOf_ref (k a _ (fun e => h0 (by rw [e])) hr)
theorem Row.keep {L' : List LO} {v : LV} {fs : List Rat} (h : Row L v fs) (k : Keep L L') : Row L' v fs := ⟨seq_keep h.1 h.2 k, h.2⟩
theorem Mat.keep {L' : List LO} {v : LV} {rs : List (List Rat)} (h : Mat L v rs) (k : Keep L L') : Mat L' v rs := by
  obtain ⟨⟨vs, h1, h2, h3⟩, h4⟩ := h
  exact ⟨⟨vs, seq_keep h1 h4 k, h2, fun i u r a b => (h3 i u r a b).keep k⟩, h4⟩
/-- the pool goes on, the rest stays or grows -/
theorem keep_pool (o o' : LO) (X Y : List LO) : Keep (o :: X) (o' :: (X ++ Y)) := by
  intro a xs c h
  cases a with
  | zero => exact absurd rfl c
  | succ a =>
    simp only [List.getElem?_cons_succ] at h ⊢
    rw [List.getElem?_append_left (List.getElem?_eq_some_iff.mp h).1]
    exact h
theorem keep_pool0 (o o' : LO) (X : List LO) : Keep (o :: X) (o' :: X) := by have := keep_pool o o' X []; rwa [List.append_nil] at this
end
/-! _law_same(answer, due) : 0 answer, 1 due, 2 key, 3 k -/
def l_law_sameB_1 : LSt := (blkS [
  ifS (orT (testB (cmpE .NotIn (varE 2) (varE 0))) (notT (truE (callE "_law_same" [(idxE (varE 0) (varE 2)), (idxE (varE 1) (varE 2))])))) (blkS [
    retE (cE (.bl false))]) (blkS [])])
def f_law_sameB_1 : LSt := forN 1 (.nm 2) l_law_sameB_1
def l_law_sameB_2 : LSt := (blkS [
  ifS (notT (truE (callE "_law_same" [(idxE (varE 0) (varE 3)), (idxE (varE 1) (varE 3))]))) (blkS [
    retE (cE (.bl false))]) (blkS [])])
def f_law_sameB_2 : LSt := forE (rngS [(biE .len false [(varE 1)])]) (.nm 3) l_law_sameB_2
def b_law_sameB : LSt := (blkS [
  ifS (orT (testB (cmpE .Is (varE 1) (cE .non))) (orT (testB (cmpE .Is (varE 1) (cE (.bl true)))) (testB (cmpE .Is (varE 1) (cE (.bl false)))))) (blkS [
    retE (orE (andE (cmpE .Is (varE 1) (cE .non)) (cmpE .Is (varE 0) (cE .non))) (orE (andE (cmpE .Is (varE 1) (cE (.bl true))) (cmpE .Is (varE 0) (cE (.bl true)))) (andE (cmpE .Is (varE 1) (cE (.bl false))) (cmpE .Is (varE 0) (cE (.bl false))))))]) (blkS []),
  ifS (truE (biE .isi false [(varE 1), (cE (.ty "int"))])) (blkS [
    retE (andE (biE .isi false [(varE 0), (cE (.ty "int"))]) (andE (notE (biE .isi false [(varE 0), (cE (.ty "bool"))])) (cmpE .Eq (varE 0) (varE 1))))]) (blkS []),
  ifS (truE (biE .isi false [(varE 1), (cE (.ty "str"))])) (blkS [
    retE (andE (biE .isi false [(varE 0), (cE (.ty "str"))]) (cmpE .Eq (varE 0) (varE 1)))]) (blkS []),
  ifS (truE (biE .isi false [(varE 1), (cE (.ty "dict"))])) (blkS [
    ifS (orT (notT (truE (biE .isi false [(varE 0), (cE (.ty "dict"))]))) (testB (cmpE .NotEq (biE .len false [(varE 0)]) (biE .len false [(varE 1)])))) (blkS [
      retE (cE (.bl false))]) (blkS []),
    f_law_sameB_1,
    retE (cE (.bl true))]) (blkS []),
  ifS (andT (truE (biE .isi false [(varE 1), (cE (.ty "tuple"))])) (notT (truE (biE .isi false [(varE 0), (cE (.ty "tuple"))])))) (blkS [
    retE (cE (.bl false))]) (blkS []),
  ifS (andT (truE (biE .isi false [(varE 1), (cE (.ty "list"))])) (notT (truE (biE .isi false [(varE 0), (cE (.ty "list"))])))) (blkS [
    retE (cE (.bl false))]) (blkS []),
  ifS (testB (cmpE .NotEq (biE .len false [(varE 0)]) (biE .len false [(varE 1)]))) (blkS [
    retE (cE (.bl false))]) (blkS []),
  f_law_sameB_2,
  retE (cE (.bl true))])
/-- x and y are alike at L, to the depth n -/
inductive Same (L : List LO) : Nat → LV → LV → Prop
  | non {n : Nat} : Same L n .non .non
  | bl {n : Nat} (b : Bool) : Same L n (.bl b) (.bl b)
  | int {n : Nat} (i : Int) : Same L n (.int i) (.int i)
  | str {n : Nat} (z : Str) : Same L n (.str z) (.str z)
  | tup {n : Nat} {xs ys : List LV} (hl : xs.length = ys.length) (hs : ys.length ≤ 100000) (h : ∀ (i : Nat) u v, xs[i]? = some u → ys[i]? = some v → Same L n u v) : Same L (n + 1) (.tup xs) (.tup ys)
  | lst {n : Nat} {x y : LV} {xs ys : List LV} (hx : seqOf L x = some xs) (hy : seqOf L y = some ys) (hl : xs.length = ys.length) (hs : ys.length ≤ 100000) (h : ∀ (i : Nat) u v, xs[i]? = some u → ys[i]? = some v → Same L n u v) : Same L (n + 1) x y
theorem Same.fr {L : List LO} {n : Nat} (q : Rat) : Same L (n + 1) (fr q) (fr q) := .tup rfl (by simp) (fun i u v h1 h2 => by
  rw [h1] at h2; cases h2
  match i, h1 with
  | 0, h1 => cases h1; exact .int _
  | 1, h1 => cases h1; exact .int _)
theorem Same.row {L : List LO} {n : Nat} {x y : LV} {fs : List Rat} (hx : Row L x fs) (hy : Row L y fs) (hl : fs.length ≤ 100000) : Same L (n + 2) x y := .lst hx.1 hy.1 rfl (by rw [List.length_map]; exact hl) (fun i u v h1 h2 => by
  rw [h1] at h2; cases h2
  rw [List.getElem?_map] at h1
  obtain ⟨q, _, e⟩ := Option.map_eq_some_iff.mp h1
  subst e; exact .fr q)
theorem Same.mat {L : List LO} {n : Nat} {x y : LV} {rs : List (List Rat)} (hx : Mat L x rs) (hy : Mat L y rs) (hl : rs.length ≤ 100000) (hr : ∀ r ∈ rs, r.length ≤ 100000) : Same L (n + 3) x y := by
  obtain ⟨⟨vs, a1, a2, a3⟩, _⟩ := hx
  obtain ⟨⟨us, b1, b2, b3⟩, _⟩ := hy
  refine .lst a1 b1 (by omega) (by omega) fun i u v h1 h2 => ?_
  have hi : i < rs.length := by have := (List.getElem?_eq_some_iff.mp h1).1; omega
  exact .row (a3 i u rs[i] h1 (List.getElem?_eq_getElem hi)) (b3 i v rs[i] h2 (List.getElem?_eq_getElem hi)) (hr _ (List.getElem_mem _))
section
variable {T : List (Str × FB)} {n k : Nat} {L : List LO}
theorem sameB_loop {cb : CB} {x y : LV} {m : Nat} (hy : lenL L y = some m) (hm : m ≤ 100000) (h : ∀ i : Nat, i < m → ∃ u v, idxL L x (.int i) = some u ∧ idxL L y (.int i) = some v ∧ cb "_law_same" [u, v] L = .ok (.bl true) L) :
    ∃ z, f_law_sameB_2 cb [some x, some y, none, none] L = .ok (.next, [some x, some y, none, z]) L := by
  unfold f_law_sameB_2
  have e0 : biE .len false [varE 1] cb [some x, some y, none, none] L = .ok (.int m) L := by simp -implicitDefEqProofs only [varE_ev, cE_ev, argsE_nil, argsE_cons, aK1_ok, aK2_ok, tupE_ev, tupK_ok, lstE_ev, lstK_ok, dctE_ev, newL_t, newL_f, newD_t, newD_f, binE_ev, binK1_ok, binK2_ok, idxE_ev, idxK1_ok, idxK2_ok, cmpE_ev, cmpK1_ok, cmpK2_ok, optV_s, optB_s, testB_ev, testK_ok, truE_ev, truK_ok, truO_s, notT_ev, notK_ok, andT_ev, andK_t, andK_f, orT_ev, orK_t, orK_f, andE_ev, andV1_ok, andV2_t, andV2_f, orE_ev, orV1_ok, orV2_t, orV2_f, notE_ev, notV1_ok, notV2_s, negE_ev, negK_ok, ifE_ev, ifV_t, ifV_f, chainE_ev, chK1_ok, chK2_ok, chK3_t, chK3_f, chK4_ok, partE_ev, partK_ok, noE_ev, sliceE_ev, slK1_ok, slK2_ok, slK3_ok, callE_ev, callK_ok, biE_ev, biK_ok, appE_ev, apK2_ok, getE_ev, geK2_ok, get2E_ev, gfK2_ok, gfK3_ok, geO_ok, asgN_ev, asgK_ok, asgT_ev, asgTK_ok, asgO_s, putE_ev, putK1_ok, putK2_ok, putK3_ok, putK4_ok, retE_ev, retK_ok, retN_ev, exprS_ev, exprK_ok, passS_ev, breakS_ev, contS_ev, ifS_ev, ifK_t, ifK_f, blkS_nil, blkS_cons, blkK_n, blkK_r, blkK_b, blkK_c, finK_r, finK_n, stT_nm, stT_tp, stTs_nil, stTs_cons, stO_s, Ev.add_int, Ev.sub_int, mul_intE, div_int, mod_intE, lt_intE, gt_intE, le_intE, ge_intE, eq_intE, ne_intE, eq_strE, ne_strE, eq_blE, ne_blE, is_nonE, is_blE, isnot_nonE, idx_lst, idx_tup, idx_refI, idx_refS, idx_dctI, idx_dctS, setL_lst, setL_str, ix4_0, ix4_1, ix4_2, ix4_3, fin_f, List.map, List.replicate, List.length_cons, List.length_nil, List.nil_append, List.cons_append, List.getElem?_cons_zero, List.getElem?_cons_succ, List.set_cons_zero, List.set_cons_succ, if_true, if_false, decide_true, decide_false, Bool.not_true, Bool.not_false, ite_true, ite_false, Ev.bi_len, lenO_s, bi_int, bi_intb, bi_abs, bi_min, bi_max, bi_gcd, bi_str, tr_bl, tr_int, Nat.sub_self, Nat.zero_add, Nat.reduceAdd, Nat.reduceSub, atI_0, atI_1, atI_2, atI_3, atI_4, Int.reduceNeg, Ev.pow_int, and_self, Bool.false_eq_true, reduceCtorEq, Option.bind_some, Option.bind_none, id_eq, Int.le_refl, Int.lt_irrefl, Int.reduceEq, Int.reduceNe, Int.reduceLT, Int.reduceLE, Int.reducePow, Int.reduceToNat, Int.reduceAbs, Nat.reducePow, Nat.reduceLT, Nat.reduceLeDiff, Nat.reduceEqDiff, Nat.reduceMul, hy]
  refine for_range (P := fun r => ∃ z, r = .ok (.next, [some x, some y, none, z]) L) (fun i s L' => (∃ z, s = [some x, some y, none, z]) ∧ L' = L) e0 (by omega) ⟨⟨none, rfl⟩, rfl⟩ (fun i s L' hi hI => ?_) (fun s L' hI => ?_)
  · obtain ⟨⟨z, rfl⟩, rfl⟩ := hI
    obtain ⟨u, v, h1, h2, h3⟩ := h i (by omega)
    refine ⟨_, stT_nm, ?_⟩
    have e : l_law_sameB_2 cb ([some x, some y, none, z].set 3 (some (.int i))) L' = .ok (.next, [some x, some y, none, some (.int i)]) L' := by
      unfold l_law_sameB_2
      simp -implicitDefEqProofs only [varE_ev, cE_ev, argsE_nil, argsE_cons, aK1_ok, aK2_ok, tupE_ev, tupK_ok, lstE_ev, lstK_ok, dctE_ev, newL_t, newL_f, newD_t, newD_f, binE_ev, binK1_ok, binK2_ok, idxE_ev, idxK1_ok, idxK2_ok, cmpE_ev, cmpK1_ok, cmpK2_ok, optV_s, optB_s, testB_ev, testK_ok, truE_ev, truK_ok, truO_s, notT_ev, notK_ok, andT_ev, andK_t, andK_f, orT_ev, orK_t, orK_f, andE_ev, andV1_ok, andV2_t, andV2_f, orE_ev, orV1_ok, orV2_t, orV2_f, notE_ev, notV1_ok, notV2_s, negE_ev, negK_ok, ifE_ev, ifV_t, ifV_f, chainE_ev, chK1_ok, chK2_ok, chK3_t, chK3_f, chK4_ok, partE_ev, partK_ok, noE_ev, sliceE_ev, slK1_ok, slK2_ok, slK3_ok, callE_ev, callK_ok, biE_ev, biK_ok, appE_ev, apK2_ok, getE_ev, geK2_ok, get2E_ev, gfK2_ok, gfK3_ok, geO_ok, asgN_ev, asgK_ok, asgT_ev, asgTK_ok, asgO_s, putE_ev, putK1_ok, putK2_ok, putK3_ok, putK4_ok, retE_ev, retK_ok, retN_ev, exprS_ev, exprK_ok, passS_ev, breakS_ev, contS_ev, ifS_ev, ifK_t, ifK_f, blkS_nil, blkS_cons, blkK_n, blkK_r, blkK_b, blkK_c, finK_r, finK_n, stT_nm, stT_tp, stTs_nil, stTs_cons, stO_s, Ev.add_int, Ev.sub_int, mul_intE, div_int, mod_intE, lt_intE, gt_intE, le_intE, ge_intE, eq_intE, ne_intE, eq_strE, ne_strE, eq_blE, ne_blE, is_nonE, is_blE, isnot_nonE, idx_lst, idx_tup, idx_refI, idx_refS, idx_dctI, idx_dctS, setL_lst, setL_str, ix4_0, ix4_1, ix4_2, ix4_3, fin_f, List.map, List.replicate, List.length_cons, List.length_nil, List.nil_append, List.cons_append, List.getElem?_cons_zero, List.getElem?_cons_succ, List.set_cons_zero, List.set_cons_succ, if_true, if_false, decide_true, decide_false, Bool.not_true, Bool.not_false, ite_true, ite_false, Ev.bi_len, lenO_s, bi_int, bi_intb, bi_abs, bi_min, bi_max, bi_gcd, bi_str, tr_bl, tr_int, Nat.sub_self, Nat.zero_add, Nat.reduceAdd, Nat.reduceSub, atI_0, atI_1, atI_2, atI_3, atI_4, Int.reduceNeg, Ev.pow_int, and_self, Bool.false_eq_true, reduceCtorEq, Option.bind_some, Option.bind_none, id_eq, Int.le_refl, Int.lt_irrefl, Int.reduceEq, Int.reduceNe, Int.reduceLT, Int.reduceLE, Int.reducePow, Int.reduceToNat, Int.reduceAbs, Nat.reducePow, Nat.reduceLT, Nat.reduceLeDiff, Nat.reduceEqDiff, Nat.reduceMul, h1, h2, h3]
    rw [e]
    exact .next ⟨⟨_, rfl⟩, rfl⟩
  · obtain ⟨⟨z, rfl⟩, rfl⟩ := hI
    exact ⟨z, rfl⟩
theorem sameB_leaf (hT : Has T "_law_same" 4 false b_law_sameB) {x : LV} (hx : x = .non ∨ (∃ b, x = .bl b) ∨ (∃ i, x = .int i) ∨ ∃ z, x = .str z) : evCall T (k + 1) "_law_same" [x, x] L = .ok (.bl true) L := by
  rw [call_of hT]
  unfold b_law_sameB
  generalize f_law_sameB_1 = C1 at *
  generalize f_law_sameB_2 = C2 at *
  rcases hx with rfl | ⟨b, rfl⟩ | ⟨i, rfl⟩ | ⟨z, rfl⟩
  · simp -implicitDefEqProofs only [varE_ev, cE_ev, argsE_nil, argsE_cons, aK1_ok, aK2_ok, tupE_ev, tupK_ok, lstE_ev, lstK_ok, dctE_ev, newL_t, newL_f, newD_t, newD_f, binE_ev, binK1_ok, binK2_ok, idxE_ev, idxK1_ok, idxK2_ok, cmpE_ev, cmpK1_ok, cmpK2_ok, optV_s, optB_s, testB_ev, testK_ok, truE_ev, truK_ok, truO_s, notT_ev, notK_ok, andT_ev, andK_t, andK_f, orT_ev, orK_t, orK_f, andE_ev, andV1_ok, andV2_t, andV2_f, orE_ev, orV1_ok, orV2_t, orV2_f, notE_ev, notV1_ok, notV2_s, negE_ev, negK_ok, ifE_ev, ifV_t, ifV_f, chainE_ev, chK1_ok, chK2_ok, chK3_t, chK3_f, chK4_ok, partE_ev, partK_ok, noE_ev, sliceE_ev, slK1_ok, slK2_ok, slK3_ok, callE_ev, callK_ok, biE_ev, biK_ok, appE_ev, apK2_ok, getE_ev, geK2_ok, get2E_ev, gfK2_ok, gfK3_ok, geO_ok, asgN_ev, asgK_ok, asgT_ev, asgTK_ok, asgO_s, putE_ev, putK1_ok, putK2_ok, putK3_ok, putK4_ok, retE_ev, retK_ok, retN_ev, exprS_ev, exprK_ok, passS_ev, breakS_ev, contS_ev, ifS_ev, ifK_t, ifK_f, blkS_nil, blkS_cons, blkK_n, blkK_r, blkK_b, blkK_c, finK_r, finK_n, stT_nm, stT_tp, stTs_nil, stTs_cons, stO_s, Ev.add_int, Ev.sub_int, mul_intE, div_int, mod_intE, lt_intE, gt_intE, le_intE, ge_intE, eq_intE, ne_intE, eq_strE, ne_strE, eq_blE, ne_blE, is_nonE, is_blE, isnot_nonE, idx_lst, idx_tup, idx_refI, idx_refS, idx_dctI, idx_dctS, setL_lst, setL_str, ix4_0, ix4_1, ix4_2, ix4_3, fin_f, List.map, List.replicate, List.length_cons, List.length_nil, List.nil_append, List.cons_append, List.getElem?_cons_zero, List.getElem?_cons_succ, List.set_cons_zero, List.set_cons_succ, if_true, if_false, decide_true, decide_false, Bool.not_true, Bool.not_false, ite_true, ite_false, Ev.bi_len, lenO_s, bi_int, bi_intb, bi_abs, bi_min, bi_max, bi_gcd, bi_str, tr_bl, tr_int, Nat.sub_self, Nat.zero_add, Nat.reduceAdd, Nat.reduceSub, atI_0, atI_1, atI_2, atI_3, atI_4, Int.reduceNeg, Ev.pow_int, and_self, Bool.false_eq_true, reduceCtorEq, Option.bind_some, Option.bind_none, id_eq, Int.le_refl, Int.lt_irrefl, Int.reduceEq, Int.reduceNe, Int.reduceLT, Int.reduceLE, Int.reducePow, Int.reduceToNat, Int.reduceAbs, Nat.reducePow, Nat.reduceLT, Nat.reduceLeDiff, Nat.reduceEqDiff, Nat.reduceMul, isi_non_dict, isi_non_list, isi_non_tuple, isi_non_str, isi_non_int, isi_non_bool, isi_bl_dict, isi_bl_list, isi_bl_tuple, isi_bl_str, isi_bl_int, isi_bl_bool, isi_int_dict, isi_int_list, isi_int_tuple, isi_int_str, isi_int_int, isi_int_bool, isi_str_dict, isi_str_list, isi_str_tuple, isi_str_str, isi_str_int, isi_str_bool, isi_tup_dict, isi_tup_list, isi_tup_tuple, isi_tup_str, isi_tup_int, isi_tup_bool, isi_lst_dict, isi_lst_list, isi_lst_tuple, isi_lst_str, isi_lst_int, isi_lst_bool, isi_dct_dict, isi_dct_list, isi_dct_tuple, isi_dct_str, isi_dct_int, isi_dct_bool, isb_int, isb_str, isb_tup, isb_lst, isb_dct, isb_ref, isb_non, isn_int, isn_str, isn_tup, isn_lst, isn_dct, isn_ref, isn_non, isn_bl]
  · cases b <;> simp -implicitDefEqProofs only [varE_ev, cE_ev, argsE_nil, argsE_cons, aK1_ok, aK2_ok, tupE_ev, tupK_ok, lstE_ev, lstK_ok, dctE_ev, newL_t, newL_f, newD_t, newD_f, binE_ev, binK1_ok, binK2_ok, idxE_ev, idxK1_ok, idxK2_ok, cmpE_ev, cmpK1_ok, cmpK2_ok, optV_s, optB_s, testB_ev, testK_ok, truE_ev, truK_ok, truO_s, notT_ev, notK_ok, andT_ev, andK_t, andK_f, orT_ev, orK_t, orK_f, andE_ev, andV1_ok, andV2_t, andV2_f, orE_ev, orV1_ok, orV2_t, orV2_f, notE_ev, notV1_ok, notV2_s, negE_ev, negK_ok, ifE_ev, ifV_t, ifV_f, chainE_ev, chK1_ok, chK2_ok, chK3_t, chK3_f, chK4_ok, partE_ev, partK_ok, noE_ev, sliceE_ev, slK1_ok, slK2_ok, slK3_ok, callE_ev, callK_ok, biE_ev, biK_ok, appE_ev, apK2_ok, getE_ev, geK2_ok, get2E_ev, gfK2_ok, gfK3_ok, geO_ok, asgN_ev, asgK_ok, asgT_ev, asgTK_ok, asgO_s, putE_ev, putK1_ok, putK2_ok, putK3_ok, putK4_ok, retE_ev, retK_ok, retN_ev, exprS_ev, exprK_ok, passS_ev, breakS_ev, contS_ev, ifS_ev, ifK_t, ifK_f, blkS_nil, blkS_cons, blkK_n, blkK_r, blkK_b, blkK_c, finK_r, finK_n, stT_nm, stT_tp, stTs_nil, stTs_cons, stO_s, Ev.add_int, Ev.sub_int, mul_intE, div_int, mod_intE, lt_intE, gt_intE, le_intE, ge_intE, eq_intE, ne_intE, eq_strE, ne_strE, eq_blE, ne_blE, is_nonE, is_blE, isnot_nonE, idx_lst, idx_tup, idx_refI, idx_refS, idx_dctI, idx_dctS, setL_lst, setL_str, ix4_0, ix4_1, ix4_2, ix4_3, fin_f, List.map, List.replicate, List.length_cons, List.length_nil, List.nil_append, List.cons_append, List.getElem?_cons_zero, List.getElem?_cons_succ, List.set_cons_zero, List.set_cons_succ, if_true, if_false, decide_true, decide_false, Bool.not_true, Bool.not_false, ite_true, ite_false, Ev.bi_len, lenO_s, bi_int, bi_intb, bi_abs, bi_min, bi_max, bi_gcd, bi_str, tr_bl, tr_int, Nat.sub_self, Nat.zero_add, Nat.reduceAdd, Nat.reduceSub, atI_0, atI_1, atI_2, atI_3, atI_4, Int.reduceNeg, Ev.pow_int, and_self, Bool.false_eq_true, reduceCtorEq, Option.bind_some, Option.bind_none, id_eq, Int.le_refl, Int.lt_irrefl, Int.reduceEq, Int.reduceNe, Int.reduceLT, Int.reduceLE, Int.reducePow, Int.reduceToNat, Int.reduceAbs, Nat.reducePow, Nat.reduceLT, Nat.reduceLeDiff, Nat.reduceEqDiff, Nat.reduceMul, isi_non_dict, isi_non_list, isi_non_tuple, isi_non_str, isi_non_int, isi_non_bool, isi_bl_dict, isi_bl_list, isi_bl_tuple, isi_bl_str, isi_bl_int, isi_bl_bool, isi_int_dict, isi_int_list, isi_int_tuple, isi_int_str, isi_int_int, isi_int_bool, isi_str_dict, isi_str_list, isi_str_tuple, isi_str_str, isi_str_int, isi_str_bool, isi_tup_dict, isi_tup_list, isi_tup_tuple, isi_tup_str, isi_tup_int, isi_tup_bool, isi_lst_dict, isi_lst_list, isi_lst_tuple, isi_lst_str, isi_lst_int, isi_lst_bool, isi_dct_dict, isi_dct_list, isi_dct_tuple, isi_dct_str, isi_dct_int, isi_dct_bool, isb_int, isb_str, isb_tup, isb_lst, isb_dct, isb_ref, isb_non, isn_int, isn_str, isn_tup, isn_lst, isn_dct, isn_ref, isn_non, isn_bl]
  · simp -implicitDefEqProofs only [varE_ev, cE_ev, argsE_nil, argsE_cons, aK1_ok, aK2_ok, tupE_ev, tupK_ok, lstE_ev, lstK_ok, dctE_ev, newL_t, newL_f, newD_t, newD_f, binE_ev, binK1_ok, binK2_ok, idxE_ev, idxK1_ok, idxK2_ok, cmpE_ev, cmpK1_ok, cmpK2_ok, optV_s, optB_s, testB_ev, testK_ok, truE_ev, truK_ok, truO_s, notT_ev, notK_ok, andT_ev, andK_t, andK_f, orT_ev, orK_t, orK_f, andE_ev, andV1_ok, andV2_t, andV2_f, orE_ev, orV1_ok, orV2_t, orV2_f, notE_ev, notV1_ok, notV2_s, negE_ev, negK_ok, ifE_ev, ifV_t, ifV_f, chainE_ev, chK1_ok, chK2_ok, chK3_t, chK3_f, chK4_ok, partE_ev, partK_ok, noE_ev, sliceE_ev, slK1_ok, slK2_ok, slK3_ok, callE_ev, callK_ok, biE_ev, biK_ok, appE_ev, apK2_ok, getE_ev, geK2_ok, get2E_ev, gfK2_ok, gfK3_ok, geO_ok, asgN_ev, asgK_ok, asgT_ev, asgTK_ok, asgO_s, putE_ev, putK1_ok, putK2_ok, putK3_ok, putK4_ok, retE_ev, retK_ok, retN_ev, exprS_ev, exprK_ok, passS_ev, breakS_ev, contS_ev, ifS_ev, ifK_t, ifK_f, blkS_nil, blkS_cons, blkK_n, blkK_r, blkK_b, blkK_c, finK_r, finK_n, stT_nm, stT_tp, stTs_nil, stTs_cons, stO_s, Ev.add_int, Ev.sub_int, mul_intE, div_int, mod_intE, lt_intE, gt_intE, le_intE, ge_intE, eq_intE, ne_intE, eq_strE, ne_strE, eq_blE, ne_blE, is_nonE, is_blE, isnot_nonE, idx_lst, idx_tup, idx_refI, idx_refS, idx_dctI, idx_dctS, setL_lst, setL_str, ix4_0, ix4_1, ix4_2, ix4_3, fin_f, List.map, List.replicate, List.length_cons, List.length_nil, List.nil_append, List.cons_append, List.getElem?_cons_zero, List.getElem?_cons_succ, List.set_cons_zero, List.set_cons_succ, if_true, if_false, decide_true, decide_false, Bool.not_true, Bool.not_false, ite_true, ite_false, Ev.bi_len, lenO_s, bi_int, bi_intb, bi_abs, bi_min, bi_max, bi_gcd, bi_str, tr_bl, tr_int, Nat.sub_self, Nat.zero_add, Nat.reduceAdd, Nat.reduceSub, atI_0, atI_1, atI_2, atI_3, atI_4, Int.reduceNeg, Ev.pow_int, and_self, Bool.false_eq_true, reduceCtorEq, Option.bind_some, Option.bind_none, id_eq, Int.le_refl, Int.lt_irrefl, Int.reduceEq, Int.reduceNe, Int.reduceLT, Int.reduceLE, Int.reducePow, Int.reduceToNat, Int.reduceAbs, Nat.reducePow, Nat.reduceLT, Nat.reduceLeDiff, Nat.reduceEqDiff, Nat.reduceMul, isi_non_dict, isi_non_list, isi_non_tuple, isi_non_str, isi_non_int, isi_non_bool, isi_bl_dict, isi_bl_list, isi_bl_tuple, isi_bl_str, isi_bl_int, isi_bl_bool, isi_int_dict, isi_int_list, isi_int_tuple, isi_int_str, isi_int_int, isi_int_bool, isi_str_dict, isi_str_list, isi_str_tuple, isi_str_str, isi_str_int, isi_str_bool, isi_tup_dict, isi_tup_list, isi_tup_tuple, isi_tup_str, isi_tup_int, isi_tup_bool, isi_lst_dict, isi_lst_list, isi_lst_tuple, isi_lst_str, isi_lst_int, isi_lst_bool, isi_dct_dict, isi_dct_list, isi_dct_tuple, isi_dct_str, isi_dct_int, isi_dct_bool, isb_int, isb_str, isb_tup, isb_lst, isb_dct, isb_ref, isb_non, isn_int, isn_str, isn_tup, isn_lst, isn_dct, isn_ref, isn_non, isn_bl]
  · simp -implicitDefEqProofs only [varE_ev, cE_ev, argsE_nil, argsE_cons, aK1_ok, aK2_ok, tupE_ev, tupK_ok, lstE_ev, lstK_ok, dctE_ev, newL_t, newL_f, newD_t, newD_f, binE_ev, binK1_ok, binK2_ok, idxE_ev, idxK1_ok, idxK2_ok, cmpE_ev, cmpK1_ok, cmpK2_ok, optV_s, optB_s, testB_ev, testK_ok, truE_ev, truK_ok, truO_s, notT_ev, notK_ok, andT_ev, andK_t, andK_f, orT_ev, orK_t, orK_f, andE_ev, andV1_ok, andV2_t, andV2_f, orE_ev, orV1_ok, orV2_t, orV2_f, notE_ev, notV1_ok, notV2_s, negE_ev, negK_ok, ifE_ev, ifV_t, ifV_f, chainE_ev, chK1_ok, chK2_ok, chK3_t, chK3_f, chK4_ok, partE_ev, partK_ok, noE_ev, sliceE_ev, slK1_ok, slK2_ok, slK3_ok, callE_ev, callK_ok, biE_ev, biK_ok, appE_ev, apK2_ok, getE_ev, geK2_ok, get2E_ev, gfK2_ok, gfK3_ok, geO_ok, asgN_ev, asgK_ok, asgT_ev, asgTK_ok, asgO_s, putE_ev, putK1_ok, putK2_ok, putK3_ok, putK4_ok, retE_ev, retK_ok, retN_ev, exprS_ev, exprK_ok, passS_ev, breakS_ev, contS_ev, ifS_ev, ifK_t, ifK_f, blkS_nil, blkS_cons, blkK_n, blkK_r, blkK_b, blkK_c, finK_r, finK_n, stT_nm, stT_tp, stTs_nil, stTs_cons, stO_s, Ev.add_int, Ev.sub_int, mul_intE, div_int, mod_intE, lt_intE, gt_intE, le_intE, ge_intE, eq_intE, ne_intE, eq_strE, ne_strE, eq_blE, ne_blE, is_nonE, is_blE, isnot_nonE, idx_lst, idx_tup, idx_refI, idx_refS, idx_dctI, idx_dctS, setL_lst, setL_str, ix4_0, ix4_1, ix4_2, ix4_3, fin_f, List.map, List.replicate, List.length_cons, List.length_nil, List.nil_append, List.cons_append, List.getElem?_cons_zero, List.getElem?_cons_succ, List.set_cons_zero, List.set_cons_succ, if_true, if_false, decide_true, decide_false, Bool.not_true, Bool.not_false, ite_true, ite_false, Ev.bi_len, lenO_s, bi_int, bi_intb, bi_abs, bi_min, bi_max, bi_gcd, bi_str, tr_bl, tr_int, Nat.sub_self, Nat.zero_add, Nat.reduceAdd, Nat.reduceSub, atI_0, atI_1, atI_2, atI_3, atI_4, Int.reduceNeg, Ev.pow_int, and_self, Bool.false_eq_true, reduceCtorEq, Option.bind_some, Option.bind_none, id_eq, Int.le_refl, Int.lt_irrefl, Int.reduceEq, Int.reduceNe, Int.reduceLT, Int.reduceLE, Int.reducePow, Int.reduceToNat, Int.reduceAbs, Nat.reducePow, Nat.reduceLT, Nat.reduceLeDiff, Nat.reduceEqDiff, Nat.reduceMul, isi_non_dict, isi_non_list, isi_non_tuple, isi_non_str, isi_non_int, isi_non_bool, isi_bl_dict, isi_bl_list, isi_bl_tuple, isi_bl_str, isi_bl_int, isi_bl_bool, isi_int_dict, isi_int_list, isi_int_tuple, isi_int_str, isi_int_int, isi_int_bool, isi_str_dict, isi_str_list, isi_str_tuple, isi_str_str, isi_str_int, isi_str_bool, isi_tup_dict, isi_tup_list, isi_tup_tuple, isi_tup_str, isi_tup_int, isi_tup_bool, isi_lst_dict, isi_lst_list, isi_lst_tuple, isi_lst_str, isi_lst_int, isi_lst_bool, isi_dct_dict, isi_dct_list, isi_dct_tuple, isi_dct_str, isi_dct_int, isi_dct_bool, isb_int, isb_str, isb_tup, isb_lst, isb_dct, isb_ref, isb_non, isn_int, isn_str, isn_tup, isn_lst, isn_dct, isn_ref, isn_non, isn_bl]
theorem sameB_eq (hT : Has T "_law_same" 4 false b_law_sameB) : ∀ (n : Nat) {x y : LV}, Same L n x y → ∀ (k : Nat), evCall T (k + n + 1) "_law_same" [x, y] L = .ok (.bl true) L := by
  intro n x y h
  induction h with
  | non => intro k; exact sameB_leaf hT (.inl rfl)
  | bl b => intro k; exact sameB_leaf hT (.inr (.inl ⟨b, rfl⟩))
  | int i => intro k; exact sameB_leaf hT (.inr (.inr (.inl ⟨i, rfl⟩)))
  | str z => intro k; exact sameB_leaf hT (.inr (.inr (.inr ⟨z, rfl⟩)))
  | @tup n xs ys hl hs h ih =>
    intro k
    obtain ⟨z, c⟩ := sameB_loop (cb := evCall T (k + n + 1)) (L := L) (x := .tup xs) (y := .tup ys) (m := ys.length) len_tup hs fun i hi => ⟨xs[i]'(by omega), ys[i], by rw [idx_tup, atI_nat, List.getElem?_eq_getElem], by rw [idx_tup, atI_nat, List.getElem?_eq_getElem], ih i _ _ (List.getElem?_eq_getElem _) (List.getElem?_eq_getElem _) k⟩
    show evCall T ((k + n + 1) + 1) _ _ L = _
    rw [call_of hT]
    unfold b_law_sameB
    generalize f_law_sameB_1 = C1 at *
    generalize f_law_sameB_2 = C2 at *
    simp -implicitDefEqProofs only [varE_ev, cE_ev, argsE_nil, argsE_cons, aK1_ok, aK2_ok, tupE_ev, tupK_ok, lstE_ev, lstK_ok, dctE_ev, newL_t, newL_f, newD_t, newD_f, binE_ev, binK1_ok, binK2_ok, idxE_ev, idxK1_ok, idxK2_ok, cmpE_ev, cmpK1_ok, cmpK2_ok, optV_s, optB_s, testB_ev, testK_ok, truE_ev, truK_ok, truO_s, notT_ev, notK_ok, andT_ev, andK_t, andK_f, orT_ev, orK_t, orK_f, andE_ev, andV1_ok, andV2_t, andV2_f, orE_ev, orV1_ok, orV2_t, orV2_f, notE_ev, notV1_ok, notV2_s, negE_ev, negK_ok, ifE_ev, ifV_t, ifV_f, chainE_ev, chK1_ok, chK2_ok, chK3_t, chK3_f, chK4_ok, partE_ev, partK_ok, noE_ev, sliceE_ev, slK1_ok, slK2_ok, slK3_ok, callE_ev, callK_ok, biE_ev, biK_ok, appE_ev, apK2_ok, getE_ev, geK2_ok, get2E_ev, gfK2_ok, gfK3_ok, geO_ok, asgN_ev, asgK_ok, asgT_ev, asgTK_ok, asgO_s, putE_ev, putK1_ok, putK2_ok, putK3_ok, putK4_ok, retE_ev, retK_ok, retN_ev, exprS_ev, exprK_ok, passS_ev, breakS_ev, contS_ev, ifS_ev, ifK_t, ifK_f, blkS_nil, blkS_cons, blkK_n, blkK_r, blkK_b, blkK_c, finK_r, finK_n, stT_nm, stT_tp, stTs_nil, stTs_cons, stO_s, Ev.add_int, Ev.sub_int, mul_intE, div_int, mod_intE, lt_intE, gt_intE, le_intE, ge_intE, eq_intE, ne_intE, eq_strE, ne_strE, eq_blE, ne_blE, is_nonE, is_blE, isnot_nonE, idx_lst, idx_tup, idx_refI, idx_refS, idx_dctI, idx_dctS, setL_lst, setL_str, ix4_0, ix4_1, ix4_2, ix4_3, fin_f, List.map, List.replicate, List.length_cons, List.length_nil, List.nil_append, List.cons_append, List.getElem?_cons_zero, List.getElem?_cons_succ, List.set_cons_zero, List.set_cons_succ, if_true, if_false, decide_true, decide_false, Bool.not_true, Bool.not_false, ite_true, ite_false, Ev.bi_len, lenO_s, bi_int, bi_intb, bi_abs, bi_min, bi_max, bi_gcd, bi_str, tr_bl, tr_int, Nat.sub_self, Nat.zero_add, Nat.reduceAdd, Nat.reduceSub, atI_0, atI_1, atI_2, atI_3, atI_4, Int.reduceNeg, Ev.pow_int, and_self, Bool.false_eq_true, reduceCtorEq, Option.bind_some, Option.bind_none, id_eq, Int.le_refl, Int.lt_irrefl, Int.reduceEq, Int.reduceNe, Int.reduceLT, Int.reduceLE, Int.reducePow, Int.reduceToNat, Int.reduceAbs, Nat.reducePow, Nat.reduceLT, Nat.reduceLeDiff, Nat.reduceEqDiff, Nat.reduceMul, isi_non_dict, isi_non_list, isi_non_tuple, isi_non_str, isi_non_int, isi_non_bool, isi_bl_dict, isi_bl_list, isi_bl_tuple, isi_bl_str, isi_bl_int, isi_bl_bool, isi_int_dict, isi_int_list, isi_int_tuple, isi_int_str, isi_int_int, isi_int_bool, isi_str_dict, isi_str_list, isi_str_tuple, isi_str_str, isi_str_int, isi_str_bool, isi_tup_dict, isi_tup_list, isi_tup_tuple, isi_tup_str, isi_tup_int, isi_tup_bool, isi_lst_dict, isi_lst_list, isi_lst_tuple, isi_lst_str, isi_lst_int, isi_lst_bool, isi_dct_dict, isi_dct_list, isi_dct_tuple, isi_dct_str, isi_dct_int, isi_dct_bool, isb_int, isb_str, isb_tup, isb_lst, isb_dct, isb_ref, isb_non, isn_int, isn_str, isn_tup, isn_lst, isn_dct, isn_ref, isn_non, isn_bl, len_tup, c, hl]
  | @lst n x y xs ys hx hy hl hs h ih =>
    intro k
    obtain ⟨z, c⟩ := sameB_loop (cb := evCall T (k + n + 1)) (L := L) (x := x) (y := y) (m := ys.length) (len_seq hy) hs fun i hi => ⟨xs[i]'(by omega), ys[i], by rw [idx_seqN hx, List.getElem?_eq_getElem], by rw [idx_seqN hy, List.getElem?_eq_getElem], ih i _ _ (List.getElem?_eq_getElem _) (List.getElem?_eq_getElem _) k⟩
    show evCall T ((k + n + 1) + 1) _ _ L = _
    rw [call_of hT]
    unfold b_law_sameB
    generalize f_law_sameB_1 = C1 at *
    generalize f_law_sameB_2 = C2 at *
    simp -implicitDefEqProofs only [varE_ev, cE_ev, argsE_nil, argsE_cons, aK1_ok, aK2_ok, tupE_ev, tupK_ok, lstE_ev, lstK_ok, dctE_ev, newL_t, newL_f, newD_t, newD_f, binE_ev, binK1_ok, binK2_ok, idxE_ev, idxK1_ok, idxK2_ok, cmpE_ev, cmpK1_ok, cmpK2_ok, optV_s, optB_s, testB_ev, testK_ok, truE_ev, truK_ok, truO_s, notT_ev, notK_ok, andT_ev, andK_t, andK_f, orT_ev, orK_t, orK_f, andE_ev, andV1_ok, andV2_t, andV2_f, orE_ev, orV1_ok, orV2_t, orV2_f, notE_ev, notV1_ok, notV2_s, negE_ev, negK_ok, ifE_ev, ifV_t, ifV_f, chainE_ev, chK1_ok, chK2_ok, chK3_t, chK3_f, chK4_ok, partE_ev, partK_ok, noE_ev, sliceE_ev, slK1_ok, slK2_ok, slK3_ok, callE_ev, callK_ok, biE_ev, biK_ok, appE_ev, apK2_ok, getE_ev, geK2_ok, get2E_ev, gfK2_ok, gfK3_ok, geO_ok, asgN_ev, asgK_ok, asgT_ev, asgTK_ok, asgO_s, putE_ev, putK1_ok, putK2_ok, putK3_ok, putK4_ok, retE_ev, retK_ok, retN_ev, exprS_ev, exprK_ok, passS_ev, breakS_ev, contS_ev, ifS_ev, ifK_t, ifK_f, blkS_nil, blkS_cons, blkK_n, blkK_r, blkK_b, blkK_c, finK_r, finK_n, stT_nm, stT_tp, stTs_nil, stTs_cons, stO_s, Ev.add_int, Ev.sub_int, mul_intE, div_int, mod_intE, lt_intE, gt_intE, le_intE, ge_intE, eq_intE, ne_intE, eq_strE, ne_strE, eq_blE, ne_blE, is_nonE, is_blE, isnot_nonE, idx_lst, idx_tup, idx_refI, idx_refS, idx_dctI, idx_dctS, setL_lst, setL_str, ix4_0, ix4_1, ix4_2, ix4_3, fin_f, List.map, List.replicate, List.length_cons, List.length_nil, List.nil_append, List.cons_append, List.getElem?_cons_zero, List.getElem?_cons_succ, List.set_cons_zero, List.set_cons_succ, if_true, if_false, decide_true, decide_false, Bool.not_true, Bool.not_false, ite_true, ite_false, Ev.bi_len, lenO_s, bi_int, bi_intb, bi_abs, bi_min, bi_max, bi_gcd, bi_str, tr_bl, tr_int, Nat.sub_self, Nat.zero_add, Nat.reduceAdd, Nat.reduceSub, atI_0, atI_1, atI_2, atI_3, atI_4, Int.reduceNeg, Ev.pow_int, and_self, Bool.false_eq_true, reduceCtorEq, Option.bind_some, Option.bind_none, id_eq, Int.le_refl, Int.lt_irrefl, Int.reduceEq, Int.reduceNe, Int.reduceLT, Int.reduceLE, Int.reducePow, Int.reduceToNat, Int.reduceAbs, Nat.reducePow, Nat.reduceLT, Nat.reduceLeDiff, Nat.reduceEqDiff, Nat.reduceMul, isi_s_list hx, isi_s_list hy, isi_s_tuple hx, isi_s_tuple hy, isi_s_dict hx, isi_s_dict hy, isi_s_int hx, isi_s_int hy, isi_s_str hx, isi_s_str hy, isn_s hy, isb_s hy, len_seq hx, len_seq hy, c, hl]
end
end Ev

set_option maxHeartbeats 4000000
/-! Ev25: rows of fractions: dot, combined, their like in the laws; drawn rows. -/
namespace Ev
open PySem PySem.Spec PyProof.Rows
open L2 (atI cutS)
/-! dot(row, other) : 0 row, 1 other, 2 found, 3 one, 4 two -/
def l_p_dot_1 : LSt := (blkS [
  ifS (andT (testB (cmpE .NotEq (idxE (varE 3) (cE (.int 0))) (cE (.int 0)))) (testB (cmpE .NotEq (idxE (varE 4) (cE (.int 0))) (cE (.int 0))))) (blkS [
    asgN 2 (callE "added" [(varE 2), (callE "times" [(varE 3), (varE 4)])])]) (blkS [])])
def f_p_dot_1 : LSt := forE (zipS (varE 0) (varE 1)) (.tp [(.nm 3), (.nm 4)]) l_p_dot_1
def b_p_dot : LSt := (blkS [
  asgN 2 (cE (.tup [(.int 0), (.int 1)])),
  f_p_dot_1,
  retE (varE 2)])
/-! combined(rows, factors, count) : 0 rows, 1 factors, 2 count, 3 found, 4 row, 5 factor, 6 column, 7 one, 8 two -/
def c_p_combined_1 : LE := lcE (rngS [(varE 2)]) (.nm 6) yesT (cE (.tup [(.int 0), (.int 1)])) [6] false
def c_p_combined_2 : LE := lcE (zipS (varE 3) (varE 4)) (.tp [(.nm 7), (.nm 8)]) yesT (callE "added" [(varE 7), (callE "times" [(varE 5), (varE 8)])]) [7, 8] false
def l_p_combined_1 : LSt := (blkS [
  ifS (testB (cmpE .NotEq (idxE (varE 5) (cE (.int 0))) (cE (.int 0)))) (blkS [
    asgN 3 c_p_combined_2]) (blkS [])])
def f_p_combined_1 : LSt := forE (zipS (varE 0) (varE 1)) (.tp [(.nm 4), (.nm 5)]) l_p_combined_1
def b_p_combined : LSt := (blkS [
  asgN 3 c_p_combined_1,
  f_p_combined_1,
  retE (varE 3)])
/-! _law_dot(row, other) : 0 row, 1 other, 2 found, 3 k -/
def l_law_dot_1 : LSt := (blkS [
  ifS (andT (testB (cmpE .NotEq (idxE (idxE (varE 0) (varE 3)) (cE (.int 0))) (cE (.int 0)))) (testB (cmpE .NotEq (idxE (idxE (varE 1) (varE 3)) (cE (.int 0))) (cE (.int 0))))) (blkS [
    asgN 2 (callE "_law_add" [(varE 2), (callE "_law_mul" [(idxE (varE 0) (varE 3)), (idxE (varE 1) (varE 3))])])]) (blkS [])])
def f_law_dot_1 : LSt := forE (rngS [(biE .len false [(varE 0)])]) (.nm 3) l_law_dot_1
def b_law_dot : LSt := (blkS [
  asgN 2 (tupE [(cE (.int 0)), (cE (.int 1))]),
  f_law_dot_1,
  retE (varE 2)])
/-! _law_fraction(pool) : 0 pool, 1 way -/
def b_law_fraction : LSt := (blkS [
  asgN 1 (callE "_law_draw" [(varE 0), (cE (.int 9))]),
  ifS (testB (cmpE .Lt (varE 1) (cE (.int 5)))) (blkS [
    retE (tupE [(binE .Sub false (callE "_law_draw" [(varE 0), (cE (.int 7))]) (cE (.int 3))), (cE (.int 1))])]) (blkS []),
  ifS (testB (cmpE .Lt (varE 1) (cE (.int 8)))) (blkS [
    retE (callE "_law_ratio" [(binE .Sub false (callE "_law_draw" [(varE 0), (cE (.int 13))]) (cE (.int 6))), (binE .Add false (cE (.int 1)) (callE "_law_draw" [(varE 0), (cE (.int 6))]))])]) (blkS []),
  retE (callE "_law_ratio" [(binE .Sub false (callE "_law_draw" [(varE 0), (cE (.int 2000001))]) (cE (.int 1000000))), (binE .Add false (cE (.int 1)) (callE "_law_draw" [(varE 0), (cE (.int 1000))]))])])
/-! _law_row(pool, count) : 0 pool, 1 count, 2 k -/
def c_law_row_1 : LE := lcE (rngS [(varE 1)]) (.nm 2) yesT (callE "_law_fraction" [(varE 0)]) [2] true
def b_law_row : LSt := (blkS [
  retE c_law_row_1])
/-! _law_minus(row, other, factor) : 0 row, 1 other, 2 factor, 3 k -/
def c_law_minus_1 : LE := lcE (rngS [(biE .len false [(varE 0)])]) (.nm 3) yesT (callE "_law_sub" [(idxE (varE 0) (varE 3)), (callE "_law_mul" [(varE 2), (idxE (varE 1) (varE 3))])]) [3] false
def b_law_minus : LSt := (blkS [
  retE c_law_minus_1])
/-! _law_first(row) : 0 row, 1 k -/
def l_law_first_1 : LSt := (blkS [
  ifS (testB (cmpE .NotEq (idxE (idxE (varE 0) (varE 1)) (cE (.int 0))) (cE (.int 0)))) (blkS [
    retE (varE 1)]) (blkS [])])
def f_law_first_1 : LSt := forE (rngS [(biE .len false [(varE 0)])]) (.nm 1) l_law_first_1
def b_law_first : LSt := (blkS [
  f_law_first_1,
  retE (negE (cE (.int 1)))])
/-! _law_combined(rows, factors, count) : 0 rows, 1 factors, 2 count, 3 found, 4 at, 5 k -/
def c_law_combined_1 : LE := lcE (rngS [(varE 2)]) (.nm 5) yesT (tupE [(cE (.int 0)), (cE (.int 1))]) [5] false
def l_law_combined_1 : LSt := (blkS [
  asgN 3 (callE "_law_minus" [(varE 3), (idxE (varE 0) (varE 4)), (callE "_law_sub" [(tupE [(cE (.int 0)), (cE (.int 1))]), (idxE (varE 1) (varE 4))])])])
def f_law_combined_1 : LSt := forE (rngS [(biE .len false [(varE 0)])]) (.nm 4) l_law_combined_1
def b_law_combined : LSt := (blkS [
  asgN 3 c_law_combined_1,
  f_law_combined_1,
  retE (varE 3)])
def AllSz (n : Nat) (a : List Rat) : Prop := ∀ q ∈ a, Sz n q
theorem AllSz.mono {m n : Nat} {a : List Rat} (h : AllSz m a) (l : m ≤ n) : AllSz n a := fun q hq => (h q hq).mono l
theorem AllSz.at {n i : Nat} {a : List Rat} {q : Rat} (h : AllSz n a) (hq : a[i]? = some q) : Sz n q := h q (List.mem_of_getElem? hq)
theorem sz_zero {n : Nat} : Sz n 0 := Sz.mono (show Sz 0 0 from ⟨by decide +kernel, by decide +kernel⟩) (Nat.zero_le _)
theorem take_zip {α β : Type} (a : List α) (b : List β) (i : Nat) : (a.zip b).take i = (a.take i).zip (b.take i) := List.take_zipWith
/-- the sum of the products -/
def dq (a b : List Rat) : Rat := ((a.zip b).map fun p => p.1 * p.2).sum
theorem zip_at {α β : Type} {a : List α} {b : List β} {i : Nat} {x : α} {y : β} (hx : a[i]? = some x) (hy : b[i]? = some y) : (a.zip b)[i]? = some (x, y) := by
  rw [List.getElem?_zip_eq_some]; exact ⟨hx, hy⟩
theorem dq_take {a b : List Rat} {i : Nat} {x y : Rat} (hx : a[i]? = some x) (hy : b[i]? = some y) : dq (a.take (i + 1)) (b.take (i + 1)) = dq (a.take i) (b.take i) + x * y := by
  unfold dq
  rw [← take_zip, ← take_zip, List.take_add_one, zip_at hx hy]
  show (List.map _ (_ ++ [(x, y)])).sum = _
  rw [List.map_append, List.sum_append]
  show _ + (x * y + 0) = _
  rw [Rat.add_zero]
theorem dq_sz {a b : List Rat} {m n : Nat} (ha : AllSz m a) (hb : AllSz n b) : ∀ i : Nat, Sz (i * (m + n + 3)) (dq (a.take i) (b.take i))
  | 0 => by rw [List.take_zero, List.take_zero]; exact sz_zero
  | i + 1 => by
    have ih := dq_sz ha hb i
    have e : (i + 1) * (m + n + 3) = i * (m + n + 3) + (m + n + 3) := Nat.succ_mul _ _
    cases hx : a[i]? with
    | none =>
      have : dq (a.take (i + 1)) (b.take (i + 1)) = dq (a.take i) (b.take i) := by
        have hl := List.getElem?_eq_none_iff.mp hx
        unfold dq
        rw [← take_zip, ← take_zip, List.take_of_length_le (by rw [List.length_zip]; omega), List.take_of_length_le (by rw [List.length_zip]; omega)]
      rw [this]; exact ih.mono (by omega)
    | some x => cases hy : b[i]? with
      | none =>
        have : dq (a.take (i + 1)) (b.take (i + 1)) = dq (a.take i) (b.take i) := by
          have hl := List.getElem?_eq_none_iff.mp hy
          unfold dq
          rw [← take_zip, ← take_zip, List.take_of_length_le (by rw [List.length_zip]; omega), List.take_of_length_le (by rw [List.length_zip]; omega)]
        rw [this]; exact ih.mono (by omega)
      | some y =>
        rw [dq_take hx hy]
        exact (sz_add ih (sz_mul (ha.at hx) (hb.at hy))).mono (by omega)
theorem row_get {fs : List Rat} {i : Nat} {x : LV} (h : (fs.map fr)[i]? = some x) : ∃ q, fs[i]? = some q ∧ x = fr q := by
  rw [List.getElem?_map] at h
  obtain ⟨q, h1, h2⟩ := Option.map_eq_some_iff.mp h
  exact ⟨q, h1, h2.symm⟩
/-- acc + f * row -/
def axpy (f : Rat) (acc row : List Rat) : List Rat := List.zipWith (fun a r => a + f * r) acc row
def comb (rs : List (List Rat)) (fs : List Rat) (n : Nat) : List Rat := (rs.zip fs).foldl (fun acc p => axpy p.2 acc p.1) (List.replicate n 0)
theorem comb_take {rs : List (List Rat)} {fs : List Rat} {n i : Nat} {r : List Rat} {f : Rat} (hr : rs[i]? = some r) (hf : fs[i]? = some f) : comb (rs.take (i + 1)) (fs.take (i + 1)) n = axpy f (comb (rs.take i) (fs.take i) n) r := by
  unfold comb
  rw [← take_zip, ← take_zip, List.take_add_one, zip_at hr hf, List.foldl_append]; rfl
theorem axpy_len {f : Rat} {acc row : List Rat} (h : row.length = acc.length) : (axpy f acc row).length = acc.length := by unfold axpy; rw [List.length_zipWith]; omega
theorem axpy_at {f : Rat} {acc row : List Rat} {i : Nat} {x y : Rat} (hx : acc[i]? = some x) (hy : row[i]? = some y) : (axpy f acc row)[i]? = some (x + f * y) := by
  unfold axpy; rw [List.getElem?_zipWith, hx, hy]
theorem axpy_zero {acc row : List Rat} (h : row.length = acc.length) : axpy 0 acc row = acc := by
  apply List.ext_getElem?
  intro i
  unfold axpy
  rw [List.getElem?_zipWith]
  cases hx : acc[i]? with
  | none => rfl
  | some x =>
    have hi := (List.getElem?_eq_some_iff.mp hx).1
    rw [List.getElem?_eq_getElem (show i < row.length by omega)]
    show some (x + 0 * _) = _
    rw [Rat.zero_mul, Rat.add_zero]
theorem axpy_sz {f : Rat} {acc row : List Rat} {a m n : Nat} (hf : Sz n f) (ha : AllSz a acc) (hr : AllSz m row) : AllSz (a + (m + n + 3)) (axpy f acc row) := by
  intro q hq
  obtain ⟨i, hi, e⟩ := List.getElem_of_mem hq
  have e : (axpy f acc row)[i]? = some q := by rw [List.getElem?_eq_getElem hi, e]
  unfold axpy at e
  rw [List.getElem?_zipWith] at e
  split at e
  · rename_i x y h1 h2
    cases e
    exact (sz_add (ha.at h1) (sz_mul hf (hr.at h2))).mono (by omega)
  · cases e
structure Rows (m n : Nat) (rs : List (List Rat)) : Prop where
  len : ∀ r ∈ rs, r.length = n
  sz : ∀ r ∈ rs, AllSz m r
theorem comb_ok {rs : List (List Rat)} {fs : List Rat} {m n c : Nat} (hr : Rows m c rs) (hf : AllSz n fs) (hl : fs.length = rs.length) : ∀ i : Nat, i ≤ rs.length → (comb (rs.take i) (fs.take i) c).length = c ∧ AllSz (i * (m + n + 3)) (comb (rs.take i) (fs.take i) c)
  | 0, _ => by
    rw [List.take_zero, List.take_zero]
    exact ⟨List.length_replicate, fun q hq => by rw [List.eq_of_mem_replicate hq]; exact sz_zero⟩
  | i + 1, h => by
    obtain ⟨h1, h2⟩ := comb_ok hr hf hl i (by omega)
    have hx : rs[i]? = some rs[i] := List.getElem?_eq_getElem (by omega)
    have hy : fs[i]? = some (fs[i]'(by omega)) := List.getElem?_eq_getElem _
    have e : (i + 1) * (m + n + 3) = i * (m + n + 3) + (m + n + 3) := Nat.succ_mul _ _
    have rl := hr.len rs[i] (List.getElem_mem _)
    rw [comb_take hx hy, e]
    exact ⟨by rw [axpy_len (by omega)]; exact h1, axpy_sz (hf.at hy) h2 (hr.sz _ (List.getElem_mem _))⟩
section
variable {L : List LO}
theorem idx_fr0 (q : Rat) : idxL L (fr q) (.int 0) = some (.int q.num) := rfl
theorem idx_fr1 (q : Rat) : idxL L (fr q) (.int 1) = some (.int (q.den : Int)) := rfl
theorem num0 {q : Rat} : decide (q.num = 0) = decide (q = 0) := by
  by_cases h : q = 0
  · subst h; rfl
  · rw [decide_eq_false h, decide_eq_false (fun e => h (Rat.num_eq_zero.mp e))]
end
section
variable {T : List (Str × FB)} {k : Nat} {L : List LO} {m n : Nat} {a b : List Rat} {v w : LV}
theorem dot_eq (hR : Has T "ratio" 3 false b_p_ratio) (hA : Has T "added" 2 false b_p_added) (hM : Has T "times" 2 false b_p_times) (hT : Has T "dot" 5 false b_p_dot) (hv : Row L v a) (hw : Row L w b) (hl : b.length = a.length) (ha : AllSz m a) (hb : AllSz n b) (h9 : a.length * (m + n + 3) + (m + n + 3) < 8990) :
    evCall T (k + 3) "dot" [v, w] L = .ok (fr (dq a b)) L := by
  have loop : ∃ y z, f_p_dot_1 (evCall T (k + 2)) [some v, some w, some (fr 0), none, none] L = .ok (.next, [some v, some w, some (fr (dq a b)), y, z]) L := by
    unfold f_p_dot_1
    refine for_zip (P := fun r => ∃ y z, r = .ok (.next, [some v, some w, some (fr (dq a b)), y, z]) L) (v := v) (w := w) (xs := a.map fr) (ys := b.map fr)
      (fun i s L' => (∃ y z, s = [some v, some w, some (fr (dq (a.take i) (b.take i))), y, z]) ∧ L' = L) rfl rfl (items_seq hv.1) (items_seq hw.1) (by simp [hl]) ⟨⟨none, none, rfl⟩, rfl⟩ (fun i s L' hI => ?_) (fun i s L' x y hx hy hI => ?_) (fun s L' hI => ?_)
    · obtain ⟨_, rfl⟩ := hI
      exact ⟨items_seq hv.1, items_seq hw.1⟩
    · obtain ⟨⟨y', z', rfl⟩, rfl⟩ := hI
      obtain ⟨p, hp, rfl⟩ := row_get hx
      obtain ⟨q, hq, rfl⟩ := row_get hy
      have hi := (List.getElem?_eq_some_iff.mp hp).1
      have hb1 : i * (m + n + 3) ≤ a.length * (m + n + 3) := Nat.mul_le_mul_right _ (by omega)
      have e1 := times_eq hR hM k L' (ha.at hp) (hb.at hq) (by omega)
      have e2 := added_eq hR hA k L' (dq_sz ha hb i) (sz_mul (ha.at hp) (hb.at hq)) (by omega)
      rw [← dq_take hp hq] at e2
      refine ⟨[some v, some w, some (fr (dq (a.take i) (b.take i))), some (fr p), some (fr q)], by simp -implicitDefEqProofs only [varE_ev, cE_ev, argsE_nil, argsE_cons, aK1_ok, aK2_ok, tupE_ev, tupK_ok, lstE_ev, lstK_ok, dctE_ev, newL_t, newL_f, newD_t, newD_f, binE_ev, binK1_ok, binK2_ok, idxE_ev, idxK1_ok, idxK2_ok, cmpE_ev, cmpK1_ok, cmpK2_ok, optV_s, optB_s, testB_ev, testK_ok, truE_ev, truK_ok, truO_s, notT_ev, notK_ok, andT_ev, andK_t, andK_f, orT_ev, orK_t, orK_f, andE_ev, andV1_ok, andV2_t, andV2_f, orE_ev, orV1_ok, orV2_t, orV2_f, notE_ev, notV1_ok, notV2_s, negE_ev, negK_ok, ifE_ev, ifV_t, ifV_f, chainE_ev, chK1_ok, chK2_ok, chK3_t, chK3_f, chK4_ok, partE_ev, partK_ok, noE_ev, sliceE_ev, slK1_ok, slK2_ok, slK3_ok, callE_ev, callK_ok, biE_ev, biK_ok, appE_ev, apK2_ok, getE_ev, geK2_ok, get2E_ev, gfK2_ok, gfK3_ok, geO_ok, asgN_ev, asgK_ok, asgT_ev, asgTK_ok, asgO_s, putE_ev, putK1_ok, putK2_ok, putK3_ok, putK4_ok, retE_ev, retK_ok, retN_ev, exprS_ev, exprK_ok, passS_ev, breakS_ev, contS_ev, ifS_ev, ifK_t, ifK_f, blkS_nil, blkS_cons, blkK_n, blkK_r, blkK_b, blkK_c, finK_r, finK_n, stT_nm, stT_tp, stTs_nil, stTs_cons, stO_s, Ev.add_int, Ev.sub_int, mul_intE, div_int, mod_intE, lt_intE, gt_intE, le_intE, ge_intE, eq_intE, ne_intE, eq_strE, ne_strE, eq_blE, ne_blE, is_nonE, is_blE, isnot_nonE, idx_lst, idx_tup, idx_refI, idx_refS, idx_dctI, idx_dctS, setL_lst, setL_str, ix4_0, ix4_1, ix4_2, ix4_3, fin_f, List.map, List.replicate, List.length_cons, List.length_nil, List.nil_append, List.cons_append, List.getElem?_cons_zero, List.getElem?_cons_succ, List.set_cons_zero, List.set_cons_succ, if_true, if_false, decide_true, decide_false, Bool.not_true, Bool.not_false, ite_true, ite_false, Ev.bi_len, lenO_s, bi_int, bi_intb, bi_abs, bi_min, bi_max, bi_gcd, bi_str, tr_bl, tr_int, Nat.sub_self, Nat.zero_add, Nat.reduceAdd, Nat.reduceSub, atI_0, atI_1, atI_2, atI_3, atI_4, Int.reduceNeg, Ev.pow_int, and_self, Bool.false_eq_true, reduceCtorEq, Option.bind_some, Option.bind_none, id_eq, Int.le_refl, Int.lt_irrefl, Int.reduceEq, Int.reduceNe, Int.reduceLT, Int.reduceLE, Int.reducePow, Int.reduceToNat, Int.reduceAbs, Nat.reducePow, Nat.reduceLT, Nat.reduceLeDiff, Nat.reduceEqDiff, Nat.reduceMul], ?_⟩
      have e : l_p_dot_1 (evCall T (k + 2)) [some v, some w, some (fr (dq (a.take i) (b.take i))), some (fr p), some (fr q)] L' = .ok (.next, [some v, some w, some (fr (dq (a.take (i + 1)) (b.take (i + 1)))), some (fr p), some (fr q)]) L' := by
        unfold l_p_dot_1
        by_cases p0 : p = 0
        · have : dq (a.take (i + 1)) (b.take (i + 1)) = dq (a.take i) (b.take i) := by rw [dq_take hp hq, p0, Rat.zero_mul, Rat.add_zero]
          simp -implicitDefEqProofs only [varE_ev, cE_ev, argsE_nil, argsE_cons, aK1_ok, aK2_ok, tupE_ev, tupK_ok, lstE_ev, lstK_ok, dctE_ev, newL_t, newL_f, newD_t, newD_f, binE_ev, binK1_ok, binK2_ok, idxE_ev, idxK1_ok, idxK2_ok, cmpE_ev, cmpK1_ok, cmpK2_ok, optV_s, optB_s, testB_ev, testK_ok, truE_ev, truK_ok, truO_s, notT_ev, notK_ok, andT_ev, andK_t, andK_f, orT_ev, orK_t, orK_f, andE_ev, andV1_ok, andV2_t, andV2_f, orE_ev, orV1_ok, orV2_t, orV2_f, notE_ev, notV1_ok, notV2_s, negE_ev, negK_ok, ifE_ev, ifV_t, ifV_f, chainE_ev, chK1_ok, chK2_ok, chK3_t, chK3_f, chK4_ok, partE_ev, partK_ok, noE_ev, sliceE_ev, slK1_ok, slK2_ok, slK3_ok, callE_ev, callK_ok, biE_ev, biK_ok, appE_ev, apK2_ok, getE_ev, geK2_ok, get2E_ev, gfK2_ok, gfK3_ok, geO_ok, asgN_ev, asgK_ok, asgT_ev, asgTK_ok, asgO_s, putE_ev, putK1_ok, putK2_ok, putK3_ok, putK4_ok, retE_ev, retK_ok, retN_ev, exprS_ev, exprK_ok, passS_ev, breakS_ev, contS_ev, ifS_ev, ifK_t, ifK_f, blkS_nil, blkS_cons, blkK_n, blkK_r, blkK_b, blkK_c, finK_r, finK_n, stT_nm, stT_tp, stTs_nil, stTs_cons, stO_s, Ev.add_int, Ev.sub_int, mul_intE, div_int, mod_intE, lt_intE, gt_intE, le_intE, ge_intE, eq_intE, ne_intE, eq_strE, ne_strE, eq_blE, ne_blE, is_nonE, is_blE, isnot_nonE, idx_lst, idx_tup, idx_refI, idx_refS, idx_dctI, idx_dctS, setL_lst, setL_str, ix4_0, ix4_1, ix4_2, ix4_3, fin_f, List.map, List.replicate, List.length_cons, List.length_nil, List.nil_append, List.cons_append, List.getElem?_cons_zero, List.getElem?_cons_succ, List.set_cons_zero, List.set_cons_succ, if_true, if_false, decide_true, decide_false, Bool.not_true, Bool.not_false, ite_true, ite_false, Ev.bi_len, lenO_s, bi_int, bi_intb, bi_abs, bi_min, bi_max, bi_gcd, bi_str, tr_bl, tr_int, Nat.sub_self, Nat.zero_add, Nat.reduceAdd, Nat.reduceSub, atI_0, atI_1, atI_2, atI_3, atI_4, Int.reduceNeg, Ev.pow_int, and_self, Bool.false_eq_true, reduceCtorEq, Option.bind_some, Option.bind_none, id_eq, Int.le_refl, Int.lt_irrefl, Int.reduceEq, Int.reduceNe, Int.reduceLT, Int.reduceLE, Int.reducePow, Int.reduceToNat, Int.reduceAbs, Nat.reducePow, Nat.reduceLT, Nat.reduceLeDiff, Nat.reduceEqDiff, Nat.reduceMul, idx_fr0, num0, p0, this]
        · by_cases q0 : q = 0
          · have : dq (a.take (i + 1)) (b.take (i + 1)) = dq (a.take i) (b.take i) := by rw [dq_take hp hq, q0, Rat.mul_zero, Rat.add_zero]
            simp -implicitDefEqProofs only [varE_ev, cE_ev, argsE_nil, argsE_cons, aK1_ok, aK2_ok, tupE_ev, tupK_ok, lstE_ev, lstK_ok, dctE_ev, newL_t, newL_f, newD_t, newD_f, binE_ev, binK1_ok, binK2_ok, idxE_ev, idxK1_ok, idxK2_ok, cmpE_ev, cmpK1_ok, cmpK2_ok, optV_s, optB_s, testB_ev, testK_ok, truE_ev, truK_ok, truO_s, notT_ev, notK_ok, andT_ev, andK_t, andK_f, orT_ev, orK_t, orK_f, andE_ev, andV1_ok, andV2_t, andV2_f, orE_ev, orV1_ok, orV2_t, orV2_f, notE_ev, notV1_ok, notV2_s, negE_ev, negK_ok, ifE_ev, ifV_t, ifV_f, chainE_ev, chK1_ok, chK2_ok, chK3_t, chK3_f, chK4_ok, partE_ev, partK_ok, noE_ev, sliceE_ev, slK1_ok, slK2_ok, slK3_ok, callE_ev, callK_ok, biE_ev, biK_ok, appE_ev, apK2_ok, getE_ev, geK2_ok, get2E_ev, gfK2_ok, gfK3_ok, geO_ok, asgN_ev, asgK_ok, asgT_ev, asgTK_ok, asgO_s, putE_ev, putK1_ok, putK2_ok, putK3_ok, putK4_ok, retE_ev, retK_ok, retN_ev, exprS_ev, exprK_ok, passS_ev, breakS_ev, contS_ev, ifS_ev, ifK_t, ifK_f, blkS_nil, blkS_cons, blkK_n, blkK_r, blkK_b, blkK_c, finK_r, finK_n, stT_nm, stT_tp, stTs_nil, stTs_cons, stO_s, Ev.add_int, Ev.sub_int, mul_intE, div_int, mod_intE, lt_intE, gt_intE, le_intE, ge_intE, eq_intE, ne_intE, eq_strE, ne_strE, eq_blE, ne_blE, is_nonE, is_blE, isnot_nonE, idx_lst, idx_tup, idx_refI, idx_refS, idx_dctI, idx_dctS, setL_lst, setL_str, ix4_0, ix4_1, ix4_2, ix4_3, fin_f, List.map, List.replicate, List.length_cons, List.length_nil, List.nil_append, List.cons_append, List.getElem?_cons_zero, List.getElem?_cons_succ, List.set_cons_zero, List.set_cons_succ, if_true, if_false, decide_true, decide_false, Bool.not_true, Bool.not_false, ite_true, ite_false, Ev.bi_len, lenO_s, bi_int, bi_intb, bi_abs, bi_min, bi_max, bi_gcd, bi_str, tr_bl, tr_int, Nat.sub_self, Nat.zero_add, Nat.reduceAdd, Nat.reduceSub, atI_0, atI_1, atI_2, atI_3, atI_4, Int.reduceNeg, Ev.pow_int, and_self, Bool.false_eq_true, reduceCtorEq, Option.bind_some, Option.bind_none, id_eq, Int.le_refl, Int.lt_irrefl, Int.reduceEq, Int.reduceNe, Int.reduceLT, Int.reduceLE, Int.reducePow, Int.reduceToNat, Int.reduceAbs, Nat.reducePow, Nat.reduceLT, Nat.reduceLeDiff, Nat.reduceEqDiff, Nat.reduceMul, idx_fr0, num0, p0, q0, this]
          · simp -implicitDefEqProofs only [varE_ev, cE_ev, argsE_nil, argsE_cons, aK1_ok, aK2_ok, tupE_ev, tupK_ok, lstE_ev, lstK_ok, dctE_ev, newL_t, newL_f, newD_t, newD_f, binE_ev, binK1_ok, binK2_ok, idxE_ev, idxK1_ok, idxK2_ok, cmpE_ev, cmpK1_ok, cmpK2_ok, optV_s, optB_s, testB_ev, testK_ok, truE_ev, truK_ok, truO_s, notT_ev, notK_ok, andT_ev, andK_t, andK_f, orT_ev, orK_t, orK_f, andE_ev, andV1_ok, andV2_t, andV2_f, orE_ev, orV1_ok, orV2_t, orV2_f, notE_ev, notV1_ok, notV2_s, negE_ev, negK_ok, ifE_ev, ifV_t, ifV_f, chainE_ev, chK1_ok, chK2_ok, chK3_t, chK3_f, chK4_ok, partE_ev, partK_ok, noE_ev, sliceE_ev, slK1_ok, slK2_ok, slK3_ok, callE_ev, callK_ok, biE_ev, biK_ok, appE_ev, apK2_ok, getE_ev, geK2_ok, get2E_ev, gfK2_ok, gfK3_ok, geO_ok, asgN_ev, asgK_ok, asgT_ev, asgTK_ok, asgO_s, putE_ev, putK1_ok, putK2_ok, putK3_ok, putK4_ok, retE_ev, retK_ok, retN_ev, exprS_ev, exprK_ok, passS_ev, breakS_ev, contS_ev, ifS_ev, ifK_t, ifK_f, blkS_nil, blkS_cons, blkK_n, blkK_r, blkK_b, blkK_c, finK_r, finK_n, stT_nm, stT_tp, stTs_nil, stTs_cons, stO_s, Ev.add_int, Ev.sub_int, mul_intE, div_int, mod_intE, lt_intE, gt_intE, le_intE, ge_intE, eq_intE, ne_intE, eq_strE, ne_strE, eq_blE, ne_blE, is_nonE, is_blE, isnot_nonE, idx_lst, idx_tup, idx_refI, idx_refS, idx_dctI, idx_dctS, setL_lst, setL_str, ix4_0, ix4_1, ix4_2, ix4_3, fin_f, List.map, List.replicate, List.length_cons, List.length_nil, List.nil_append, List.cons_append, List.getElem?_cons_zero, List.getElem?_cons_succ, List.set_cons_zero, List.set_cons_succ, if_true, if_false, decide_true, decide_false, Bool.not_true, Bool.not_false, ite_true, ite_false, Ev.bi_len, lenO_s, bi_int, bi_intb, bi_abs, bi_min, bi_max, bi_gcd, bi_str, tr_bl, tr_int, Nat.sub_self, Nat.zero_add, Nat.reduceAdd, Nat.reduceSub, atI_0, atI_1, atI_2, atI_3, atI_4, Int.reduceNeg, Ev.pow_int, and_self, Bool.false_eq_true, reduceCtorEq, Option.bind_some, Option.bind_none, id_eq, Int.le_refl, Int.lt_irrefl, Int.reduceEq, Int.reduceNe, Int.reduceLT, Int.reduceLE, Int.reducePow, Int.reduceToNat, Int.reduceAbs, Nat.reducePow, Nat.reduceLT, Nat.reduceLeDiff, Nat.reduceEqDiff, Nat.reduceMul, idx_fr0, num0, p0, q0, e1, e2]
      rw [e]
      exact .next ⟨⟨_, _, rfl⟩, rfl⟩
    · obtain ⟨⟨y', z', rfl⟩, rfl⟩ := hI
      rw [List.length_map]
      exact ⟨y', z', by rw [List.take_length, List.take_of_length_le (by omega)]⟩
  obtain ⟨y, z, e⟩ := loop
  rw [fr_0] at e
  rw [call_of hT]
  unfold b_p_dot
  generalize f_p_dot_1 = C1 at *
  simp -implicitDefEqProofs only [varE_ev, cE_ev, argsE_nil, argsE_cons, aK1_ok, aK2_ok, tupE_ev, tupK_ok, lstE_ev, lstK_ok, dctE_ev, newL_t, newL_f, newD_t, newD_f, binE_ev, binK1_ok, binK2_ok, idxE_ev, idxK1_ok, idxK2_ok, cmpE_ev, cmpK1_ok, cmpK2_ok, optV_s, optB_s, testB_ev, testK_ok, truE_ev, truK_ok, truO_s, notT_ev, notK_ok, andT_ev, andK_t, andK_f, orT_ev, orK_t, orK_f, andE_ev, andV1_ok, andV2_t, andV2_f, orE_ev, orV1_ok, orV2_t, orV2_f, notE_ev, notV1_ok, notV2_s, negE_ev, negK_ok, ifE_ev, ifV_t, ifV_f, chainE_ev, chK1_ok, chK2_ok, chK3_t, chK3_f, chK4_ok, partE_ev, partK_ok, noE_ev, sliceE_ev, slK1_ok, slK2_ok, slK3_ok, callE_ev, callK_ok, biE_ev, biK_ok, appE_ev, apK2_ok, getE_ev, geK2_ok, get2E_ev, gfK2_ok, gfK3_ok, geO_ok, asgN_ev, asgK_ok, asgT_ev, asgTK_ok, asgO_s, putE_ev, putK1_ok, putK2_ok, putK3_ok, putK4_ok, retE_ev, retK_ok, retN_ev, exprS_ev, exprK_ok, passS_ev, breakS_ev, contS_ev, ifS_ev, ifK_t, ifK_f, blkS_nil, blkS_cons, blkK_n, blkK_r, blkK_b, blkK_c, finK_r, finK_n, stT_nm, stT_tp, stTs_nil, stTs_cons, stO_s, Ev.add_int, Ev.sub_int, mul_intE, div_int, mod_intE, lt_intE, gt_intE, le_intE, ge_intE, eq_intE, ne_intE, eq_strE, ne_strE, eq_blE, ne_blE, is_nonE, is_blE, isnot_nonE, idx_lst, idx_tup, idx_refI, idx_refS, idx_dctI, idx_dctS, setL_lst, setL_str, ix4_0, ix4_1, ix4_2, ix4_3, fin_f, List.map, List.replicate, List.length_cons, List.length_nil, List.nil_append, List.cons_append, List.getElem?_cons_zero, List.getElem?_cons_succ, List.set_cons_zero, List.set_cons_succ, if_true, if_false, decide_true, decide_false, Bool.not_true, Bool.not_false, ite_true, ite_false, Ev.bi_len, lenO_s, bi_int, bi_intb, bi_abs, bi_min, bi_max, bi_gcd, bi_str, tr_bl, tr_int, Nat.sub_self, Nat.zero_add, Nat.reduceAdd, Nat.reduceSub, atI_0, atI_1, atI_2, atI_3, atI_4, Int.reduceNeg, Ev.pow_int, and_self, Bool.false_eq_true, reduceCtorEq, Option.bind_some, Option.bind_none, id_eq, Int.le_refl, Int.lt_irrefl, Int.reduceEq, Int.reduceNe, Int.reduceLT, Int.reduceLE, Int.reducePow, Int.reduceToNat, Int.reduceAbs, Nat.reducePow, Nat.reduceLT, Nat.reduceLeDiff, Nat.reduceEqDiff, Nat.reduceMul, e]
/-- _law_dot -/
theorem ldot_eq (hG : Has T "_law_gcd" 3 false b_law_gcd) (hR : Has T "_law_ratio" 3 false b_law_ratio) (hA : Has T "_law_add" 2 false b_law_add) (hM : Has T "_law_mul" 2 false b_law_mul) (hT : Has T "_law_dot" 4 false b_law_dot) (hv : Row L v a) (hw : Row L w b) (hl : b.length = a.length) (ha : AllSz m a) (hb : AllSz n b) (hs : a.length ≤ 1000) (h9 : a.length * (m + n + 3) + (m + n + 3) < 8990) :
    evCall T (k + 4) "_law_dot" [v, w] L = .ok (fr (dq a b)) L := by
  have loop : ∃ y, f_law_dot_1 (evCall T (k + 3)) [some v, some w, some (fr 0), none] L = .ok (.next, [some v, some w, some (fr (dq a b)), y]) L := by
    unfold f_law_dot_1
    have e0 : biE .len false [varE 0] (evCall T (k + 3)) [some v, some w, some (fr 0), none] L = .ok (.int a.length) L := by simp -implicitDefEqProofs only [varE_ev, cE_ev, argsE_nil, argsE_cons, aK1_ok, aK2_ok, tupE_ev, tupK_ok, lstE_ev, lstK_ok, dctE_ev, newL_t, newL_f, newD_t, newD_f, binE_ev, binK1_ok, binK2_ok, idxE_ev, idxK1_ok, idxK2_ok, cmpE_ev, cmpK1_ok, cmpK2_ok, optV_s, optB_s, testB_ev, testK_ok, truE_ev, truK_ok, truO_s, notT_ev, notK_ok, andT_ev, andK_t, andK_f, orT_ev, orK_t, orK_f, andE_ev, andV1_ok, andV2_t, andV2_f, orE_ev, orV1_ok, orV2_t, orV2_f, notE_ev, notV1_ok, notV2_s, negE_ev, negK_ok, ifE_ev, ifV_t, ifV_f, chainE_ev, chK1_ok, chK2_ok, chK3_t, chK3_f, chK4_ok, partE_ev, partK_ok, noE_ev, sliceE_ev, slK1_ok, slK2_ok, slK3_ok, callE_ev, callK_ok, biE_ev, biK_ok, appE_ev, apK2_ok, getE_ev, geK2_ok, get2E_ev, gfK2_ok, gfK3_ok, geO_ok, asgN_ev, asgK_ok, asgT_ev, asgTK_ok, asgO_s, putE_ev, putK1_ok, putK2_ok, putK3_ok, putK4_ok, retE_ev, retK_ok, retN_ev, exprS_ev, exprK_ok, passS_ev, breakS_ev, contS_ev, ifS_ev, ifK_t, ifK_f, blkS_nil, blkS_cons, blkK_n, blkK_r, blkK_b, blkK_c, finK_r, finK_n, stT_nm, stT_tp, stTs_nil, stTs_cons, stO_s, Ev.add_int, Ev.sub_int, mul_intE, div_int, mod_intE, lt_intE, gt_intE, le_intE, ge_intE, eq_intE, ne_intE, eq_strE, ne_strE, eq_blE, ne_blE, is_nonE, is_blE, isnot_nonE, idx_lst, idx_tup, idx_refI, idx_refS, idx_dctI, idx_dctS, setL_lst, setL_str, ix4_0, ix4_1, ix4_2, ix4_3, fin_f, List.map, List.replicate, List.length_cons, List.length_nil, List.nil_append, List.cons_append, List.getElem?_cons_zero, List.getElem?_cons_succ, List.set_cons_zero, List.set_cons_succ, if_true, if_false, decide_true, decide_false, Bool.not_true, Bool.not_false, ite_true, ite_false, Ev.bi_len, lenO_s, bi_int, bi_intb, bi_abs, bi_min, bi_max, bi_gcd, bi_str, tr_bl, tr_int, Nat.sub_self, Nat.zero_add, Nat.reduceAdd, Nat.reduceSub, atI_0, atI_1, atI_2, atI_3, atI_4, Int.reduceNeg, Ev.pow_int, and_self, Bool.false_eq_true, reduceCtorEq, Option.bind_some, Option.bind_none, id_eq, Int.le_refl, Int.lt_irrefl, Int.reduceEq, Int.reduceNe, Int.reduceLT, Int.reduceLE, Int.reducePow, Int.reduceToNat, Int.reduceAbs, Nat.reducePow, Nat.reduceLT, Nat.reduceLeDiff, Nat.reduceEqDiff, Nat.reduceMul, hv.len]
    refine for_range (P := fun r => ∃ y, r = .ok (.next, [some v, some w, some (fr (dq a b)), y]) L) (j := a.length)
      (fun i s L' => (∃ y, s = [some v, some w, some (fr (dq (a.take i) (b.take i))), y]) ∧ L' = L) e0 (by omega) ⟨⟨none, rfl⟩, rfl⟩ (fun i s L' hi hI => ?_) (fun s L' hI => ?_)
    · obtain ⟨⟨y', rfl⟩, rfl⟩ := hI
      have hi : i < a.length := by omega
      have hp : a[i]? = some a[i] := List.getElem?_eq_getElem hi
      have hq : b[i]? = some (b[i]'(by omega)) := List.getElem?_eq_getElem _
      generalize a[i] = p at *
      generalize (b[i]'(by omega)) = q at *
      have hb1 : i * (m + n + 3) ≤ a.length * (m + n + 3) := Nat.mul_le_mul_right _ (by omega)
      have e1 := lmul_eq hG hR hM k L' (ha.at hp) (hb.at hq) (by omega)
      have e2 := ladd_eq hG hR hA k L' (dq_sz ha hb i) (sz_mul (ha.at hp) (hb.at hq)) (by omega)
      rw [← dq_take hp hq] at e2
      refine ⟨_, stT_nm, ?_⟩
      have e : l_law_dot_1 (evCall T (k + 3)) ([some v, some w, some (fr (dq (a.take i) (b.take i))), y'].set 3 (some (.int i))) L' = .ok (.next, [some v, some w, some (fr (dq (a.take (i + 1)) (b.take (i + 1)))), some (.int i)]) L' := by
        unfold l_law_dot_1
        by_cases p0 : p = 0
        · have : dq (a.take (i + 1)) (b.take (i + 1)) = dq (a.take i) (b.take i) := by rw [dq_take hp hq, p0, Rat.zero_mul, Rat.add_zero]
          simp -implicitDefEqProofs only [varE_ev, cE_ev, argsE_nil, argsE_cons, aK1_ok, aK2_ok, tupE_ev, tupK_ok, lstE_ev, lstK_ok, dctE_ev, newL_t, newL_f, newD_t, newD_f, binE_ev, binK1_ok, binK2_ok, idxE_ev, idxK1_ok, idxK2_ok, cmpE_ev, cmpK1_ok, cmpK2_ok, optV_s, optB_s, testB_ev, testK_ok, truE_ev, truK_ok, truO_s, notT_ev, notK_ok, andT_ev, andK_t, andK_f, orT_ev, orK_t, orK_f, andE_ev, andV1_ok, andV2_t, andV2_f, orE_ev, orV1_ok, orV2_t, orV2_f, notE_ev, notV1_ok, notV2_s, negE_ev, negK_ok, ifE_ev, ifV_t, ifV_f, chainE_ev, chK1_ok, chK2_ok, chK3_t, chK3_f, chK4_ok, partE_ev, partK_ok, noE_ev, sliceE_ev, slK1_ok, slK2_ok, slK3_ok, callE_ev, callK_ok, biE_ev, biK_ok, appE_ev, apK2_ok, getE_ev, geK2_ok, get2E_ev, gfK2_ok, gfK3_ok, geO_ok, asgN_ev, asgK_ok, asgT_ev, asgTK_ok, asgO_s, putE_ev, putK1_ok, putK2_ok, putK3_ok, putK4_ok, retE_ev, retK_ok, retN_ev, exprS_ev, exprK_ok, passS_ev, breakS_ev, contS_ev, ifS_ev, ifK_t, ifK_f, blkS_nil, blkS_cons, blkK_n, blkK_r, blkK_b, blkK_c, finK_r, finK_n, stT_nm, stT_tp, stTs_nil, stTs_cons, stO_s, Ev.add_int, Ev.sub_int, mul_intE, div_int, mod_intE, lt_intE, gt_intE, le_intE, ge_intE, eq_intE, ne_intE, eq_strE, ne_strE, eq_blE, ne_blE, is_nonE, is_blE, isnot_nonE, idx_lst, idx_tup, idx_refI, idx_refS, idx_dctI, idx_dctS, setL_lst, setL_str, ix4_0, ix4_1, ix4_2, ix4_3, fin_f, List.map, List.replicate, List.length_cons, List.length_nil, List.nil_append, List.cons_append, List.getElem?_cons_zero, List.getElem?_cons_succ, List.set_cons_zero, List.set_cons_succ, if_true, if_false, decide_true, decide_false, Bool.not_true, Bool.not_false, ite_true, ite_false, Ev.bi_len, lenO_s, bi_int, bi_intb, bi_abs, bi_min, bi_max, bi_gcd, bi_str, tr_bl, tr_int, Nat.sub_self, Nat.zero_add, Nat.reduceAdd, Nat.reduceSub, atI_0, atI_1, atI_2, atI_3, atI_4, Int.reduceNeg, Ev.pow_int, and_self, Bool.false_eq_true, reduceCtorEq, Option.bind_some, Option.bind_none, id_eq, Int.le_refl, Int.lt_irrefl, Int.reduceEq, Int.reduceNe, Int.reduceLT, Int.reduceLE, Int.reducePow, Int.reduceToNat, Int.reduceAbs, Nat.reducePow, Nat.reduceLT, Nat.reduceLeDiff, Nat.reduceEqDiff, Nat.reduceMul, hv.at hp, hw.at hq, idx_fr0, num0, p0, this]
        · by_cases q0 : q = 0
          · have : dq (a.take (i + 1)) (b.take (i + 1)) = dq (a.take i) (b.take i) := by rw [dq_take hp hq, q0, Rat.mul_zero, Rat.add_zero]
            simp -implicitDefEqProofs only [varE_ev, cE_ev, argsE_nil, argsE_cons, aK1_ok, aK2_ok, tupE_ev, tupK_ok, lstE_ev, lstK_ok, dctE_ev, newL_t, newL_f, newD_t, newD_f, binE_ev, binK1_ok, binK2_ok, idxE_ev, idxK1_ok, idxK2_ok, cmpE_ev, cmpK1_ok, cmpK2_ok, optV_s, optB_s, testB_ev, testK_ok, truE_ev, truK_ok, truO_s, notT_ev, notK_ok, andT_ev, andK_t, andK_f, orT_ev, orK_t, orK_f, andE_ev, andV1_ok, andV2_t, andV2_f, orE_ev, orV1_ok, orV2_t, orV2_f, notE_ev, notV1_ok, notV2_s, negE_ev, negK_ok, ifE_ev, ifV_t, ifV_f, chainE_ev, chK1_ok, chK2_ok, chK3_t, chK3_f, chK4_ok, partE_ev, partK_ok, noE_ev, sliceE_ev, slK1_ok, slK2_ok, slK3_ok, callE_ev, callK_ok, biE_ev, biK_ok, appE_ev, apK2_ok, getE_ev, geK2_ok, get2E_ev, gfK2_ok, gfK3_ok, geO_ok, asgN_ev, asgK_ok, asgT_ev, asgTK_ok, asgO_s, putE_ev, putK1_ok, putK2_ok, putK3_ok, putK4_ok, retE_ev, retK_ok, retN_ev, exprS_ev, exprK_ok, passS_ev, breakS_ev, contS_ev, ifS_ev, ifK_t, ifK_f, blkS_nil, blkS_cons, blkK_n, blkK_r, blkK_b, blkK_c, finK_r, finK_n, stT_nm, stT_tp, stTs_nil, stTs_cons, stO_s, Ev.add_int, Ev.sub_int, mul_intE, div_int, mod_intE, lt_intE, gt_intE, le_intE, ge_intE, eq_intE, ne_intE, eq_strE, ne_strE, eq_blE, ne_blE, is_nonE, is_blE, isnot_nonE, idx_lst, idx_tup, idx_refI, idx_refS, idx_dctI, idx_dctS, setL_lst, setL_str, ix4_0, ix4_1, ix4_2, ix4_3, fin_f, List.map, List.replicate, List.length_cons, List.length_nil, List.nil_append, List.cons_append, List.getElem?_cons_zero, List.getElem?_cons_succ, List.set_cons_zero, List.set_cons_succ, if_true, if_false, decide_true, decide_false, Bool.not_true, Bool.not_false, ite_true, ite_false, Ev.bi_len, lenO_s, bi_int, bi_intb, bi_abs, bi_min, bi_max, bi_gcd, bi_str, tr_bl, tr_int, Nat.sub_self, Nat.zero_add, Nat.reduceAdd, Nat.reduceSub, atI_0, atI_1, atI_2, atI_3, atI_4, Int.reduceNeg, Ev.pow_int, and_self, Bool.false_eq_true, reduceCtorEq, Option.bind_some, Option.bind_none, id_eq, Int.le_refl, Int.lt_irrefl, Int.reduceEq, Int.reduceNe, Int.reduceLT, Int.reduceLE, Int.reducePow, Int.reduceToNat, Int.reduceAbs, Nat.reducePow, Nat.reduceLT, Nat.reduceLeDiff, Nat.reduceEqDiff, Nat.reduceMul, hv.at hp, hw.at hq, idx_fr0, num0, p0, q0, this]
          · simp -implicitDefEqProofs only [varE_ev, cE_ev, argsE_nil, argsE_cons, aK1_ok, aK2_ok, tupE_ev, tupK_ok, lstE_ev, lstK_ok, dctE_ev, newL_t, newL_f, newD_t, newD_f, binE_ev, binK1_ok, binK2_ok, idxE_ev, idxK1_ok, idxK2_ok, cmpE_ev, cmpK1_ok, cmpK2_ok, optV_s, optB_s, testB_ev, testK_ok, truE_ev, truK_ok, truO_s, notT_ev, notK_ok, andT_ev, andK_t, andK_f, orT_ev, orK_t, orK_f, andE_ev, andV1_ok, andV2_t, andV2_f, orE_ev, orV1_ok, orV2_t, orV2_f, notE_ev, notV1_ok, notV2_s, negE_ev, negK_ok, ifE_ev, ifV_t, ifV_f, chainE_ev, chK1_ok, chK2_ok, chK3_t, chK3_f, chK4_ok, partE_ev, partK_ok, noE_ev, sliceE_ev, slK1_ok, slK2_ok, slK3_ok, callE_ev, callK_ok, biE_ev, biK_ok, appE_ev, apK2_ok, getE_ev, geK2_ok, get2E_ev, gfK2_ok, gfK3_ok, geO_ok, asgN_ev, asgK_ok, asgT_ev, asgTK_ok, asgO_s, putE_ev, putK1_ok, putK2_ok, putK3_ok, putK4_ok, retE_ev, retK_ok, retN_ev, exprS_ev, exprK_ok, passS_ev, breakS_ev, contS_ev, ifS_ev, ifK_t, ifK_f, blkS_nil, blkS_cons, blkK_n, blkK_r, blkK_b, blkK_c, finK_r, finK_n, stT_nm, stT_tp, stTs_nil, stTs_cons, stO_s, Ev.add_int, Ev.sub_int, mul_intE, div_int, mod_intE, lt_intE, gt_intE, le_intE, ge_intE, eq_intE, ne_intE, eq_strE, ne_strE, eq_blE, ne_blE, is_nonE, is_blE, isnot_nonE, idx_lst, idx_tup, idx_refI, idx_refS, idx_dctI, idx_dctS, setL_lst, setL_str, ix4_0, ix4_1, ix4_2, ix4_3, fin_f, List.map, List.replicate, List.length_cons, List.length_nil, List.nil_append, List.cons_append, List.getElem?_cons_zero, List.getElem?_cons_succ, List.set_cons_zero, List.set_cons_succ, if_true, if_false, decide_true, decide_false, Bool.not_true, Bool.not_false, ite_true, ite_false, Ev.bi_len, lenO_s, bi_int, bi_intb, bi_abs, bi_min, bi_max, bi_gcd, bi_str, tr_bl, tr_int, Nat.sub_self, Nat.zero_add, Nat.reduceAdd, Nat.reduceSub, atI_0, atI_1, atI_2, atI_3, atI_4, Int.reduceNeg, Ev.pow_int, and_self, Bool.false_eq_true, reduceCtorEq, Option.bind_some, Option.bind_none, id_eq, Int.le_refl, Int.lt_irrefl, Int.reduceEq, Int.reduceNe, Int.reduceLT, Int.reduceLE, Int.reducePow, Int.reduceToNat, Int.reduceAbs, Nat.reducePow, Nat.reduceLT, Nat.reduceLeDiff, Nat.reduceEqDiff, Nat.reduceMul, hv.at hp, hw.at hq, idx_fr0, num0, p0, q0, e1, e2]
      rw [e]
      exact .next ⟨⟨_, rfl⟩, rfl⟩
    · obtain ⟨⟨y', rfl⟩, rfl⟩ := hI
      exact ⟨y', by rw [Int.toNat_natCast, List.take_length, List.take_of_length_le (by omega)]⟩
  obtain ⟨y, e⟩ := loop
  rw [fr_0] at e
  rw [call_of hT]
  unfold b_law_dot
  generalize f_law_dot_1 = C1 at *
  simp -implicitDefEqProofs only [varE_ev, cE_ev, argsE_nil, argsE_cons, aK1_ok, aK2_ok, tupE_ev, tupK_ok, lstE_ev, lstK_ok, dctE_ev, newL_t, newL_f, newD_t, newD_f, binE_ev, binK1_ok, binK2_ok, idxE_ev, idxK1_ok, idxK2_ok, cmpE_ev, cmpK1_ok, cmpK2_ok, optV_s, optB_s, testB_ev, testK_ok, truE_ev, truK_ok, truO_s, notT_ev, notK_ok, andT_ev, andK_t, andK_f, orT_ev, orK_t, orK_f, andE_ev, andV1_ok, andV2_t, andV2_f, orE_ev, orV1_ok, orV2_t, orV2_f, notE_ev, notV1_ok, notV2_s, negE_ev, negK_ok, ifE_ev, ifV_t, ifV_f, chainE_ev, chK1_ok, chK2_ok, chK3_t, chK3_f, chK4_ok, partE_ev, partK_ok, noE_ev, sliceE_ev, slK1_ok, slK2_ok, slK3_ok, callE_ev, callK_ok, biE_ev, biK_ok, appE_ev, apK2_ok, getE_ev, geK2_ok, get2E_ev, gfK2_ok, gfK3_ok, geO_ok, asgN_ev, asgK_ok, asgT_ev, asgTK_ok, asgO_s, putE_ev, putK1_ok, putK2_ok, putK3_ok, putK4_ok, retE_ev, retK_ok, retN_ev, exprS_ev, exprK_ok, passS_ev, breakS_ev, contS_ev, ifS_ev, ifK_t, ifK_f, blkS_nil, blkS_cons, blkK_n, blkK_r, blkK_b, blkK_c, finK_r, finK_n, stT_nm, stT_tp, stTs_nil, stTs_cons, stO_s, Ev.add_int, Ev.sub_int, mul_intE, div_int, mod_intE, lt_intE, gt_intE, le_intE, ge_intE, eq_intE, ne_intE, eq_strE, ne_strE, eq_blE, ne_blE, is_nonE, is_blE, isnot_nonE, idx_lst, idx_tup, idx_refI, idx_refS, idx_dctI, idx_dctS, setL_lst, setL_str, ix4_0, ix4_1, ix4_2, ix4_3, fin_f, List.map, List.replicate, List.length_cons, List.length_nil, List.nil_append, List.cons_append, List.getElem?_cons_zero, List.getElem?_cons_succ, List.set_cons_zero, List.set_cons_succ, if_true, if_false, decide_true, decide_false, Bool.not_true, Bool.not_false, ite_true, ite_false, Ev.bi_len, lenO_s, bi_int, bi_intb, bi_abs, bi_min, bi_max, bi_gcd, bi_str, tr_bl, tr_int, Nat.sub_self, Nat.zero_add, Nat.reduceAdd, Nat.reduceSub, atI_0, atI_1, atI_2, atI_3, atI_4, Int.reduceNeg, Ev.pow_int, and_self, Bool.false_eq_true, reduceCtorEq, Option.bind_some, Option.bind_none, id_eq, Int.le_refl, Int.lt_irrefl, Int.reduceEq, Int.reduceNe, Int.reduceLT, Int.reduceLE, Int.reducePow, Int.reduceToNat, Int.reduceAbs, Nat.reducePow, Nat.reduceLT, Nat.reduceLeDiff, Nat.reduceEqDiff, Nat.reduceMul, e]
def minusQ (a b : List Rat) (f : Rat) : List Rat := List.zipWith (fun x y => x - f * y) a b
/-- _law_minus -/
theorem minus_eq {f : Rat} {j : Nat} (hG : Has T "_law_gcd" 3 false b_law_gcd) (hR : Has T "_law_ratio" 3 false b_law_ratio) (hS : Has T "_law_sub" 2 false b_law_sub) (hM : Has T "_law_mul" 2 false b_law_mul) (hT : Has T "_law_minus" 4 false b_law_minus) (hv : Row L v a) (hw : Row L w b) (hl : b.length = a.length) (ha : AllSz m a) (hb : AllSz n b) (hf : Sz j f) (hs : a.length ≤ 1000) (h9 : m + n + j + 3 < 8990) :
    evCall T (k + 4) "_law_minus" [v, w, fr f] L = .ok (.lst ((minusQ a b f).map fr)) L := by
  have loop : c_law_minus_1 (evCall T (k + 3)) [some v, some w, some (fr f), none] L = .ok (.lst ((minusQ a b f).map fr)) L := by
    unfold c_law_minus_1
    have e0 : biE .len false [varE 0] (evCall T (k + 3)) [some v, some w, some (fr f), none] L = .ok (.int a.length) L := by simp -implicitDefEqProofs only [varE_ev, cE_ev, argsE_nil, argsE_cons, aK1_ok, aK2_ok, tupE_ev, tupK_ok, lstE_ev, lstK_ok, dctE_ev, newL_t, newL_f, newD_t, newD_f, binE_ev, binK1_ok, binK2_ok, idxE_ev, idxK1_ok, idxK2_ok, cmpE_ev, cmpK1_ok, cmpK2_ok, optV_s, optB_s, testB_ev, testK_ok, truE_ev, truK_ok, truO_s, notT_ev, notK_ok, andT_ev, andK_t, andK_f, orT_ev, orK_t, orK_f, andE_ev, andV1_ok, andV2_t, andV2_f, orE_ev, orV1_ok, orV2_t, orV2_f, notE_ev, notV1_ok, notV2_s, negE_ev, negK_ok, ifE_ev, ifV_t, ifV_f, chainE_ev, chK1_ok, chK2_ok, chK3_t, chK3_f, chK4_ok, partE_ev, partK_ok, noE_ev, sliceE_ev, slK1_ok, slK2_ok, slK3_ok, callE_ev, callK_ok, biE_ev, biK_ok, appE_ev, apK2_ok, getE_ev, geK2_ok, get2E_ev, gfK2_ok, gfK3_ok, geO_ok, asgN_ev, asgK_ok, asgT_ev, asgTK_ok, asgO_s, putE_ev, putK1_ok, putK2_ok, putK3_ok, putK4_ok, retE_ev, retK_ok, retN_ev, exprS_ev, exprK_ok, passS_ev, breakS_ev, contS_ev, ifS_ev, ifK_t, ifK_f, blkS_nil, blkS_cons, blkK_n, blkK_r, blkK_b, blkK_c, finK_r, finK_n, stT_nm, stT_tp, stTs_nil, stTs_cons, stO_s, Ev.add_int, Ev.sub_int, mul_intE, div_int, mod_intE, lt_intE, gt_intE, le_intE, ge_intE, eq_intE, ne_intE, eq_strE, ne_strE, eq_blE, ne_blE, is_nonE, is_blE, isnot_nonE, idx_lst, idx_tup, idx_refI, idx_refS, idx_dctI, idx_dctS, setL_lst, setL_str, ix4_0, ix4_1, ix4_2, ix4_3, fin_f, List.map, List.replicate, List.length_cons, List.length_nil, List.nil_append, List.cons_append, List.getElem?_cons_zero, List.getElem?_cons_succ, List.set_cons_zero, List.set_cons_succ, if_true, if_false, decide_true, decide_false, Bool.not_true, Bool.not_false, ite_true, ite_false, Ev.bi_len, lenO_s, bi_int, bi_intb, bi_abs, bi_min, bi_max, bi_gcd, bi_str, tr_bl, tr_int, Nat.sub_self, Nat.zero_add, Nat.reduceAdd, Nat.reduceSub, atI_0, atI_1, atI_2, atI_3, atI_4, Int.reduceNeg, Ev.pow_int, and_self, Bool.false_eq_true, reduceCtorEq, Option.bind_some, Option.bind_none, id_eq, Int.le_refl, Int.lt_irrefl, Int.reduceEq, Int.reduceNe, Int.reduceLT, Int.reduceLE, Int.reducePow, Int.reduceToNat, Int.reduceAbs, Nat.reducePow, Nat.reduceLT, Nat.reduceLeDiff, Nat.reduceEqDiff, Nat.reduceMul, hv.len]
    rw [lc_rng (zs := (minusQ a b f).map fr) e0 (by unfold minusQ; rw [List.length_map, List.length_zipWith]; omega) (small_line (by omega))]
    · rfl
    · intro i z hi hz
      have hp : a[i]? = some a[i] := List.getElem?_eq_getElem hi
      have hq : b[i]? = some (b[i]'(by omega)) := List.getElem?_eq_getElem _
      generalize a[i] = p at *
      generalize (b[i]'(by omega)) = q at *
      obtain ⟨u, hu, rfl⟩ := row_get hz
      unfold minusQ at hu
      rw [List.getElem?_zipWith, hp, hq] at hu
      cases hu
      have e1 := lmul_eq hG hR hM k L hf (hb.at hq) (by omega)
      have e2 := lsub_eq hG hR hS k L (ha.at hp) (sz_mul hf (hb.at hq)) (by omega)
      exact ⟨_, stT_nm, rfl, by simp -implicitDefEqProofs only [varE_ev, cE_ev, argsE_nil, argsE_cons, aK1_ok, aK2_ok, tupE_ev, tupK_ok, lstE_ev, lstK_ok, dctE_ev, newL_t, newL_f, newD_t, newD_f, binE_ev, binK1_ok, binK2_ok, idxE_ev, idxK1_ok, idxK2_ok, cmpE_ev, cmpK1_ok, cmpK2_ok, optV_s, optB_s, testB_ev, testK_ok, truE_ev, truK_ok, truO_s, notT_ev, notK_ok, andT_ev, andK_t, andK_f, orT_ev, orK_t, orK_f, andE_ev, andV1_ok, andV2_t, andV2_f, orE_ev, orV1_ok, orV2_t, orV2_f, notE_ev, notV1_ok, notV2_s, negE_ev, negK_ok, ifE_ev, ifV_t, ifV_f, chainE_ev, chK1_ok, chK2_ok, chK3_t, chK3_f, chK4_ok, partE_ev, partK_ok, noE_ev, sliceE_ev, slK1_ok, slK2_ok, slK3_ok, callE_ev, callK_ok, biE_ev, biK_ok, appE_ev, apK2_ok, getE_ev, geK2_ok, get2E_ev, gfK2_ok, gfK3_ok, geO_ok, asgN_ev, asgK_ok, asgT_ev, asgTK_ok, asgO_s, putE_ev, putK1_ok, putK2_ok, putK3_ok, putK4_ok, retE_ev, retK_ok, retN_ev, exprS_ev, exprK_ok, passS_ev, breakS_ev, contS_ev, ifS_ev, ifK_t, ifK_f, blkS_nil, blkS_cons, blkK_n, blkK_r, blkK_b, blkK_c, finK_r, finK_n, stT_nm, stT_tp, stTs_nil, stTs_cons, stO_s, Ev.add_int, Ev.sub_int, mul_intE, div_int, mod_intE, lt_intE, gt_intE, le_intE, ge_intE, eq_intE, ne_intE, eq_strE, ne_strE, eq_blE, ne_blE, is_nonE, is_blE, isnot_nonE, idx_lst, idx_tup, idx_refI, idx_refS, idx_dctI, idx_dctS, setL_lst, setL_str, ix4_0, ix4_1, ix4_2, ix4_3, fin_f, List.map, List.replicate, List.length_cons, List.length_nil, List.nil_append, List.cons_append, List.getElem?_cons_zero, List.getElem?_cons_succ, List.set_cons_zero, List.set_cons_succ, if_true, if_false, decide_true, decide_false, Bool.not_true, Bool.not_false, ite_true, ite_false, Ev.bi_len, lenO_s, bi_int, bi_intb, bi_abs, bi_min, bi_max, bi_gcd, bi_str, tr_bl, tr_int, Nat.sub_self, Nat.zero_add, Nat.reduceAdd, Nat.reduceSub, atI_0, atI_1, atI_2, atI_3, atI_4, Int.reduceNeg, Ev.pow_int, and_self, Bool.false_eq_true, reduceCtorEq, Option.bind_some, Option.bind_none, id_eq, Int.le_refl, Int.lt_irrefl, Int.reduceEq, Int.reduceNe, Int.reduceLT, Int.reduceLE, Int.reducePow, Int.reduceToNat, Int.reduceAbs, Nat.reducePow, Nat.reduceLT, Nat.reduceLeDiff, Nat.reduceEqDiff, Nat.reduceMul, wipe_3, hv.at hp, hw.at hq, e1, e2]⟩
  rw [call_of hT]
  unfold b_law_minus
  generalize c_law_minus_1 = C1 at *
  simp -implicitDefEqProofs only [varE_ev, cE_ev, argsE_nil, argsE_cons, aK1_ok, aK2_ok, tupE_ev, tupK_ok, lstE_ev, lstK_ok, dctE_ev, newL_t, newL_f, newD_t, newD_f, binE_ev, binK1_ok, binK2_ok, idxE_ev, idxK1_ok, idxK2_ok, cmpE_ev, cmpK1_ok, cmpK2_ok, optV_s, optB_s, testB_ev, testK_ok, truE_ev, truK_ok, truO_s, notT_ev, notK_ok, andT_ev, andK_t, andK_f, orT_ev, orK_t, orK_f, andE_ev, andV1_ok, andV2_t, andV2_f, orE_ev, orV1_ok, orV2_t, orV2_f, notE_ev, notV1_ok, notV2_s, negE_ev, negK_ok, ifE_ev, ifV_t, ifV_f, chainE_ev, chK1_ok, chK2_ok, chK3_t, chK3_f, chK4_ok, partE_ev, partK_ok, noE_ev, sliceE_ev, slK1_ok, slK2_ok, slK3_ok, callE_ev, callK_ok, biE_ev, biK_ok, appE_ev, apK2_ok, getE_ev, geK2_ok, get2E_ev, gfK2_ok, gfK3_ok, geO_ok, asgN_ev, asgK_ok, asgT_ev, asgTK_ok, asgO_s, putE_ev, putK1_ok, putK2_ok, putK3_ok, putK4_ok, retE_ev, retK_ok, retN_ev, exprS_ev, exprK_ok, passS_ev, breakS_ev, contS_ev, ifS_ev, ifK_t, ifK_f, blkS_nil, blkS_cons, blkK_n, blkK_r, blkK_b, blkK_c, finK_r, finK_n, stT_nm, stT_tp, stTs_nil, stTs_cons, stO_s, Ev.add_int, Ev.sub_int, mul_intE, div_int, mod_intE, lt_intE, gt_intE, le_intE, ge_intE, eq_intE, ne_intE, eq_strE, ne_strE, eq_blE, ne_blE, is_nonE, is_blE, isnot_nonE, idx_lst, idx_tup, idx_refI, idx_refS, idx_dctI, idx_dctS, setL_lst, setL_str, ix4_0, ix4_1, ix4_2, ix4_3, fin_f, List.map, List.replicate, List.length_cons, List.length_nil, List.nil_append, List.cons_append, List.getElem?_cons_zero, List.getElem?_cons_succ, List.set_cons_zero, List.set_cons_succ, if_true, if_false, decide_true, decide_false, Bool.not_true, Bool.not_false, ite_true, ite_false, Ev.bi_len, lenO_s, bi_int, bi_intb, bi_abs, bi_min, bi_max, bi_gcd, bi_str, tr_bl, tr_int, Nat.sub_self, Nat.zero_add, Nat.reduceAdd, Nat.reduceSub, atI_0, atI_1, atI_2, atI_3, atI_4, Int.reduceNeg, Ev.pow_int, and_self, Bool.false_eq_true, reduceCtorEq, Option.bind_some, Option.bind_none, id_eq, Int.le_refl, Int.lt_irrefl, Int.reduceEq, Int.reduceNe, Int.reduceLT, Int.reduceLE, Int.reducePow, Int.reduceToNat, Int.reduceAbs, Nat.reducePow, Nat.reduceLT, Nat.reduceLeDiff, Nat.reduceEqDiff, Nat.reduceMul, loop]
theorem axpy_minus (f : Rat) (a b : List Rat) : minusQ a b (0 - f) = axpy f a b := by
  unfold minusQ axpy
  congr 1
  funext x y
  grind
/-- combined -/
theorem combined_eq {rs : List (List Rat)} {fs : List Rat} {c : Nat} (hR : Has T "ratio" 3 false b_p_ratio) (hA : Has T "added" 2 false b_p_added) (hM : Has T "times" 2 false b_p_times) (hT : Has T "combined" 9 false b_p_combined) (hv : Mat L v rs) (hw : Row L w fs) (hl : fs.length = rs.length) (hr : Rows m c rs) (hf : AllSz n fs) (hs : c ≤ 1000) (h9 : rs.length * (m + n + 3) + (m + n + 3) < 8990) :
    evCall T (k + 3) "combined" [v, w, .int c] L = .ok (.lst ((comb rs fs c).map fr)) L := by
  have first : c_p_combined_1 (evCall T (k + 2)) [some v, some w, some (.int c), none, none, none, none, none, none] L = .ok (.lst ((List.replicate c (0 : Rat)).map fr)) L := by
    unfold c_p_combined_1
    have e0 : varE 2 (evCall T (k + 2)) [some v, some w, some (.int c), none, none, none, none, none, none] L = .ok (.int c) L := by simp -implicitDefEqProofs only [varE_ev, cE_ev, argsE_nil, argsE_cons, aK1_ok, aK2_ok, tupE_ev, tupK_ok, lstE_ev, lstK_ok, dctE_ev, newL_t, newL_f, newD_t, newD_f, binE_ev, binK1_ok, binK2_ok, idxE_ev, idxK1_ok, idxK2_ok, cmpE_ev, cmpK1_ok, cmpK2_ok, optV_s, optB_s, testB_ev, testK_ok, truE_ev, truK_ok, truO_s, notT_ev, notK_ok, andT_ev, andK_t, andK_f, orT_ev, orK_t, orK_f, andE_ev, andV1_ok, andV2_t, andV2_f, orE_ev, orV1_ok, orV2_t, orV2_f, notE_ev, notV1_ok, notV2_s, negE_ev, negK_ok, ifE_ev, ifV_t, ifV_f, chainE_ev, chK1_ok, chK2_ok, chK3_t, chK3_f, chK4_ok, partE_ev, partK_ok, noE_ev, sliceE_ev, slK1_ok, slK2_ok, slK3_ok, callE_ev, callK_ok, biE_ev, biK_ok, appE_ev, apK2_ok, getE_ev, geK2_ok, get2E_ev, gfK2_ok, gfK3_ok, geO_ok, asgN_ev, asgK_ok, asgT_ev, asgTK_ok, asgO_s, putE_ev, putK1_ok, putK2_ok, putK3_ok, putK4_ok, retE_ev, retK_ok, retN_ev, exprS_ev, exprK_ok, passS_ev, breakS_ev, contS_ev, ifS_ev, ifK_t, ifK_f, blkS_nil, blkS_cons, blkK_n, blkK_r, blkK_b, blkK_c, finK_r, finK_n, stT_nm, stT_tp, stTs_nil, stTs_cons, stO_s, Ev.add_int, Ev.sub_int, mul_intE, div_int, mod_intE, lt_intE, gt_intE, le_intE, ge_intE, eq_intE, ne_intE, eq_strE, ne_strE, eq_blE, ne_blE, is_nonE, is_blE, isnot_nonE, idx_lst, idx_tup, idx_refI, idx_refS, idx_dctI, idx_dctS, setL_lst, setL_str, ix4_0, ix4_1, ix4_2, ix4_3, fin_f, List.map, List.replicate, List.length_cons, List.length_nil, List.nil_append, List.cons_append, List.getElem?_cons_zero, List.getElem?_cons_succ, List.set_cons_zero, List.set_cons_succ, if_true, if_false, decide_true, decide_false, Bool.not_true, Bool.not_false, ite_true, ite_false, Ev.bi_len, lenO_s, bi_int, bi_intb, bi_abs, bi_min, bi_max, bi_gcd, bi_str, tr_bl, tr_int, Nat.sub_self, Nat.zero_add, Nat.reduceAdd, Nat.reduceSub, atI_0, atI_1, atI_2, atI_3, atI_4, Int.reduceNeg, Ev.pow_int, and_self, Bool.false_eq_true, reduceCtorEq, Option.bind_some, Option.bind_none, id_eq, Int.le_refl, Int.lt_irrefl, Int.reduceEq, Int.reduceNe, Int.reduceLT, Int.reduceLE, Int.reducePow, Int.reduceToNat, Int.reduceAbs, Nat.reducePow, Nat.reduceLT, Nat.reduceLeDiff, Nat.reduceEqDiff, Nat.reduceMul]
    rw [lc_rng (zs := (List.replicate c (0 : Rat)).map fr) e0 (by simp) (small_line (by omega))]
    · rfl
    · intro i z hi hz
      obtain ⟨u, hu, rfl⟩ := row_get hz
      have : u = 0 := List.eq_of_mem_replicate (List.mem_of_getElem? hu)
      subst this
      exact ⟨_, stT_nm, rfl, rfl⟩
  obtain ⟨⟨vs, v1, v2, v3⟩, v4⟩ := id hv
  have loop : ∃ y z, f_p_combined_1 (evCall T (k + 2)) [some v, some w, some (.int c), some (.lst ((List.replicate c (0 : Rat)).map fr)), none, none, none, none, none] L = .ok (.next, [some v, some w, some (.int c), some (.lst ((comb rs fs c).map fr)), y, z, none, none, none]) L := by
    unfold f_p_combined_1
    refine for_zip (P := fun r => ∃ y z, r = .ok (.next, [some v, some w, some (.int c), some (.lst ((comb rs fs c).map fr)), y, z, none, none, none]) L) (v := v) (w := w) (xs := vs) (ys := fs.map fr)
      (fun i s L' => (∃ y z, s = [some v, some w, some (.int c), some (.lst ((comb (rs.take i) (fs.take i) c).map fr)), y, z, none, none, none]) ∧ L' = L) rfl rfl (items_seq v1) (items_seq hw.1) (by simp; omega) ⟨⟨none, none, by rw [List.take_zero, List.take_zero]; rfl⟩, rfl⟩ (fun i s L' hI => ?_) (fun i s L' x y hx hy hI => ?_) (fun s L' hI => ?_)
    · obtain ⟨_, rfl⟩ := hI
      exact ⟨items_seq v1, items_seq hw.1⟩
    · obtain ⟨⟨y', z', rfl⟩, rfl⟩ := hI
      obtain ⟨f, hq, rfl⟩ := row_get hy
      have hi : i < rs.length := by have := (List.getElem?_eq_some_iff.mp hx).1; omega
      have hp : rs[i]? = some rs[i] := List.getElem?_eq_getElem hi
      have hrm : rs[i] ∈ rs := List.getElem_mem _
      generalize rs[i] = r at *
      have rx := v3 i x r hx hp
      obtain ⟨c1, c2⟩ := comb_ok hr hf hl i (by omega)
      have rl := hr.len r hrm
      have hb1 : i * (m + n + 3) ≤ rs.length * (m + n + 3) := Nat.mul_le_mul_right _ (by omega)
      refine ⟨[some v, some w, some (.int c), some (.lst ((comb (rs.take i) (fs.take i) c).map fr)), some x, some (fr f), none, none, none], by simp -implicitDefEqProofs only [varE_ev, cE_ev, argsE_nil, argsE_cons, aK1_ok, aK2_ok, tupE_ev, tupK_ok, lstE_ev, lstK_ok, dctE_ev, newL_t, newL_f, newD_t, newD_f, binE_ev, binK1_ok, binK2_ok, idxE_ev, idxK1_ok, idxK2_ok, cmpE_ev, cmpK1_ok, cmpK2_ok, optV_s, optB_s, testB_ev, testK_ok, truE_ev, truK_ok, truO_s, notT_ev, notK_ok, andT_ev, andK_t, andK_f, orT_ev, orK_t, orK_f, andE_ev, andV1_ok, andV2_t, andV2_f, orE_ev, orV1_ok, orV2_t, orV2_f, notE_ev, notV1_ok, notV2_s, negE_ev, negK_ok, ifE_ev, ifV_t, ifV_f, chainE_ev, chK1_ok, chK2_ok, chK3_t, chK3_f, chK4_ok, partE_ev, partK_ok, noE_ev, sliceE_ev, slK1_ok, slK2_ok, slK3_ok, callE_ev, callK_ok, biE_ev, biK_ok, appE_ev, apK2_ok, getE_ev, geK2_ok, get2E_ev, gfK2_ok, gfK3_ok, geO_ok, asgN_ev, asgK_ok, asgT_ev, asgTK_ok, asgO_s, putE_ev, putK1_ok, putK2_ok, putK3_ok, putK4_ok, retE_ev, retK_ok, retN_ev, exprS_ev, exprK_ok, passS_ev, breakS_ev, contS_ev, ifS_ev, ifK_t, ifK_f, blkS_nil, blkS_cons, blkK_n, blkK_r, blkK_b, blkK_c, finK_r, finK_n, stT_nm, stT_tp, stTs_nil, stTs_cons, stO_s, Ev.add_int, Ev.sub_int, mul_intE, div_int, mod_intE, lt_intE, gt_intE, le_intE, ge_intE, eq_intE, ne_intE, eq_strE, ne_strE, eq_blE, ne_blE, is_nonE, is_blE, isnot_nonE, idx_lst, idx_tup, idx_refI, idx_refS, idx_dctI, idx_dctS, setL_lst, setL_str, ix4_0, ix4_1, ix4_2, ix4_3, fin_f, List.map, List.replicate, List.length_cons, List.length_nil, List.nil_append, List.cons_append, List.getElem?_cons_zero, List.getElem?_cons_succ, List.set_cons_zero, List.set_cons_succ, if_true, if_false, decide_true, decide_false, Bool.not_true, Bool.not_false, ite_true, ite_false, Ev.bi_len, lenO_s, bi_int, bi_intb, bi_abs, bi_min, bi_max, bi_gcd, bi_str, tr_bl, tr_int, Nat.sub_self, Nat.zero_add, Nat.reduceAdd, Nat.reduceSub, atI_0, atI_1, atI_2, atI_3, atI_4, Int.reduceNeg, Ev.pow_int, and_self, Bool.false_eq_true, reduceCtorEq, Option.bind_some, Option.bind_none, id_eq, Int.le_refl, Int.lt_irrefl, Int.reduceEq, Int.reduceNe, Int.reduceLT, Int.reduceLE, Int.reducePow, Int.reduceToNat, Int.reduceAbs, Nat.reducePow, Nat.reduceLT, Nat.reduceLeDiff, Nat.reduceEqDiff, Nat.reduceMul], ?_⟩
      have e : l_p_combined_1 (evCall T (k + 2)) [some v, some w, some (.int c), some (.lst ((comb (rs.take i) (fs.take i) c).map fr)), some x, some (fr f), none, none, none] L' = .ok (.next, [some v, some w, some (.int c), some (.lst ((comb (rs.take (i + 1)) (fs.take (i + 1)) c).map fr)), some x, some (fr f), none, none, none]) L' := by
        have inner : c_p_combined_2 (evCall T (k + 2)) [some v, some w, some (.int c), some (.lst ((comb (rs.take i) (fs.take i) c).map fr)), some x, some (fr f), none, none, none] L' = .ok (.lst ((axpy f (comb (rs.take i) (fs.take i) c) r).map fr)) L' := by
          unfold c_p_combined_2
          rw [lc_zip (v := .lst ((comb (rs.take i) (fs.take i) c).map fr)) (w := x) (xs := (comb (rs.take i) (fs.take i) c).map fr) (ys := r.map fr) (zs := (axpy f (comb (rs.take i) (fs.take i) c) r).map fr) rfl rfl rfl (items_seq rx.1) (by simp; omega) (by rw [List.length_map, List.length_map, axpy_len (by omega)]) (small_line (by rw [List.length_map]; omega))]
          · rfl
          · intro i' x' y' z hx hy hz
            obtain ⟨p, hp, rfl⟩ := row_get hx
            obtain ⟨q, hq, rfl⟩ := row_get hy
            obtain ⟨u, hu, rfl⟩ := row_get hz
            rw [axpy_at hp hq] at hu
            cases hu
            have s2 := (hr.sz r hrm).at hq
            have s1 := hf.at (show fs[i]? = some f by assumption)
            have e1 := times_eq hR hM k L' s1 s2 (by omega)
            have e2 := added_eq hR hA k L' (c2.at hp) (sz_mul s1 s2) (by omega)
            exact ⟨[some v, some w, some (.int c), some (.lst ((comb (rs.take i) (fs.take i) c).map fr)), some x, some (fr f), none, some (fr p), some (fr q)], rfl, rfl, by simp -implicitDefEqProofs only [varE_ev, cE_ev, argsE_nil, argsE_cons, aK1_ok, aK2_ok, tupE_ev, tupK_ok, lstE_ev, lstK_ok, dctE_ev, newL_t, newL_f, newD_t, newD_f, binE_ev, binK1_ok, binK2_ok, idxE_ev, idxK1_ok, idxK2_ok, cmpE_ev, cmpK1_ok, cmpK2_ok, optV_s, optB_s, testB_ev, testK_ok, truE_ev, truK_ok, truO_s, notT_ev, notK_ok, andT_ev, andK_t, andK_f, orT_ev, orK_t, orK_f, andE_ev, andV1_ok, andV2_t, andV2_f, orE_ev, orV1_ok, orV2_t, orV2_f, notE_ev, notV1_ok, notV2_s, negE_ev, negK_ok, ifE_ev, ifV_t, ifV_f, chainE_ev, chK1_ok, chK2_ok, chK3_t, chK3_f, chK4_ok, partE_ev, partK_ok, noE_ev, sliceE_ev, slK1_ok, slK2_ok, slK3_ok, callE_ev, callK_ok, biE_ev, biK_ok, appE_ev, apK2_ok, getE_ev, geK2_ok, get2E_ev, gfK2_ok, gfK3_ok, geO_ok, asgN_ev, asgK_ok, asgT_ev, asgTK_ok, asgO_s, putE_ev, putK1_ok, putK2_ok, putK3_ok, putK4_ok, retE_ev, retK_ok, retN_ev, exprS_ev, exprK_ok, passS_ev, breakS_ev, contS_ev, ifS_ev, ifK_t, ifK_f, blkS_nil, blkS_cons, blkK_n, blkK_r, blkK_b, blkK_c, finK_r, finK_n, stT_nm, stT_tp, stTs_nil, stTs_cons, stO_s, Ev.add_int, Ev.sub_int, mul_intE, div_int, mod_intE, lt_intE, gt_intE, le_intE, ge_intE, eq_intE, ne_intE, eq_strE, ne_strE, eq_blE, ne_blE, is_nonE, is_blE, isnot_nonE, idx_lst, idx_tup, idx_refI, idx_refS, idx_dctI, idx_dctS, setL_lst, setL_str, ix4_0, ix4_1, ix4_2, ix4_3, fin_f, List.map, List.replicate, List.length_cons, List.length_nil, List.nil_append, List.cons_append, List.getElem?_cons_zero, List.getElem?_cons_succ, List.set_cons_zero, List.set_cons_succ, if_true, if_false, decide_true, decide_false, Bool.not_true, Bool.not_false, ite_true, ite_false, Ev.bi_len, lenO_s, bi_int, bi_intb, bi_abs, bi_min, bi_max, bi_gcd, bi_str, tr_bl, tr_int, Nat.sub_self, Nat.zero_add, Nat.reduceAdd, Nat.reduceSub, atI_0, atI_1, atI_2, atI_3, atI_4, Int.reduceNeg, Ev.pow_int, and_self, Bool.false_eq_true, reduceCtorEq, Option.bind_some, Option.bind_none, id_eq, Int.le_refl, Int.lt_irrefl, Int.reduceEq, Int.reduceNe, Int.reduceLT, Int.reduceLE, Int.reducePow, Int.reduceToNat, Int.reduceAbs, Nat.reducePow, Nat.reduceLT, Nat.reduceLeDiff, Nat.reduceEqDiff, Nat.reduceMul, e1, e2]⟩
        unfold l_p_combined_1
        generalize c_p_combined_2 = C2 at *
        rw [comb_take hp hq]
        by_cases f0 : f = 0
        · subst f0
          rw [axpy_zero (by omega)]
          simp -implicitDefEqProofs only [varE_ev, cE_ev, argsE_nil, argsE_cons, aK1_ok, aK2_ok, tupE_ev, tupK_ok, lstE_ev, lstK_ok, dctE_ev, newL_t, newL_f, newD_t, newD_f, binE_ev, binK1_ok, binK2_ok, idxE_ev, idxK1_ok, idxK2_ok, cmpE_ev, cmpK1_ok, cmpK2_ok, optV_s, optB_s, testB_ev, testK_ok, truE_ev, truK_ok, truO_s, notT_ev, notK_ok, andT_ev, andK_t, andK_f, orT_ev, orK_t, orK_f, andE_ev, andV1_ok, andV2_t, andV2_f, orE_ev, orV1_ok, orV2_t, orV2_f, notE_ev, notV1_ok, notV2_s, negE_ev, negK_ok, ifE_ev, ifV_t, ifV_f, chainE_ev, chK1_ok, chK2_ok, chK3_t, chK3_f, chK4_ok, partE_ev, partK_ok, noE_ev, sliceE_ev, slK1_ok, slK2_ok, slK3_ok, callE_ev, callK_ok, biE_ev, biK_ok, appE_ev, apK2_ok, getE_ev, geK2_ok, get2E_ev, gfK2_ok, gfK3_ok, geO_ok, asgN_ev, asgK_ok, asgT_ev, asgTK_ok, asgO_s, putE_ev, putK1_ok, putK2_ok, putK3_ok, putK4_ok, retE_ev, retK_ok, retN_ev, exprS_ev, exprK_ok, passS_ev, breakS_ev, contS_ev, ifS_ev, ifK_t, ifK_f, blkS_nil, blkS_cons, blkK_n, blkK_r, blkK_b, blkK_c, finK_r, finK_n, stT_nm, stT_tp, stTs_nil, stTs_cons, stO_s, Ev.add_int, Ev.sub_int, mul_intE, div_int, mod_intE, lt_intE, gt_intE, le_intE, ge_intE, eq_intE, ne_intE, eq_strE, ne_strE, eq_blE, ne_blE, is_nonE, is_blE, isnot_nonE, idx_lst, idx_tup, idx_refI, idx_refS, idx_dctI, idx_dctS, setL_lst, setL_str, ix4_0, ix4_1, ix4_2, ix4_3, fin_f, List.map, List.replicate, List.length_cons, List.length_nil, List.nil_append, List.cons_append, List.getElem?_cons_zero, List.getElem?_cons_succ, List.set_cons_zero, List.set_cons_succ, if_true, if_false, decide_true, decide_false, Bool.not_true, Bool.not_false, ite_true, ite_false, Ev.bi_len, lenO_s, bi_int, bi_intb, bi_abs, bi_min, bi_max, bi_gcd, bi_str, tr_bl, tr_int, Nat.sub_self, Nat.zero_add, Nat.reduceAdd, Nat.reduceSub, atI_0, atI_1, atI_2, atI_3, atI_4, Int.reduceNeg, Ev.pow_int, and_self, Bool.false_eq_true, reduceCtorEq, Option.bind_some, Option.bind_none, id_eq, Int.le_refl, Int.lt_irrefl, Int.reduceEq, Int.reduceNe, Int.reduceLT, Int.reduceLE, Int.reducePow, Int.reduceToNat, Int.reduceAbs, Nat.reducePow, Nat.reduceLT, Nat.reduceLeDiff, Nat.reduceEqDiff, Nat.reduceMul, idx_fr0, num0]
        · simp -implicitDefEqProofs only [varE_ev, cE_ev, argsE_nil, argsE_cons, aK1_ok, aK2_ok, tupE_ev, tupK_ok, lstE_ev, lstK_ok, dctE_ev, newL_t, newL_f, newD_t, newD_f, binE_ev, binK1_ok, binK2_ok, idxE_ev, idxK1_ok, idxK2_ok, cmpE_ev, cmpK1_ok, cmpK2_ok, optV_s, optB_s, testB_ev, testK_ok, truE_ev, truK_ok, truO_s, notT_ev, notK_ok, andT_ev, andK_t, andK_f, orT_ev, orK_t, orK_f, andE_ev, andV1_ok, andV2_t, andV2_f, orE_ev, orV1_ok, orV2_t, orV2_f, notE_ev, notV1_ok, notV2_s, negE_ev, negK_ok, ifE_ev, ifV_t, ifV_f, chainE_ev, chK1_ok, chK2_ok, chK3_t, chK3_f, chK4_ok, partE_ev, partK_ok, noE_ev, sliceE_ev, slK1_ok, slK2_ok, slK3_ok, callE_ev, callK_ok, biE_ev, biK_ok, appE_ev, apK2_ok, getE_ev, geK2_ok, get2E_ev, gfK2_ok, gfK3_ok, geO_ok, asgN_ev, asgK_ok, asgT_ev, asgTK_ok, asgO_s, putE_ev, putK1_ok, putK2_ok, putK3_ok, putK4_ok, retE_ev, retK_ok, retN_ev, exprS_ev, exprK_ok, passS_ev, breakS_ev, contS_ev, ifS_ev, ifK_t, ifK_f, blkS_nil, blkS_cons, blkK_n, blkK_r, blkK_b, blkK_c, finK_r, finK_n, stT_nm, stT_tp, stTs_nil, stTs_cons, stO_s, Ev.add_int, Ev.sub_int, mul_intE, div_int, mod_intE, lt_intE, gt_intE, le_intE, ge_intE, eq_intE, ne_intE, eq_strE, ne_strE, eq_blE, ne_blE, is_nonE, is_blE, isnot_nonE, idx_lst, idx_tup, idx_refI, idx_refS, idx_dctI, idx_dctS, setL_lst, setL_str, ix4_0, ix4_1, ix4_2, ix4_3, fin_f, List.map, List.replicate, List.length_cons, List.length_nil, List.nil_append, List.cons_append, List.getElem?_cons_zero, List.getElem?_cons_succ, List.set_cons_zero, List.set_cons_succ, if_true, if_false, decide_true, decide_false, Bool.not_true, Bool.not_false, ite_true, ite_false, Ev.bi_len, lenO_s, bi_int, bi_intb, bi_abs, bi_min, bi_max, bi_gcd, bi_str, tr_bl, tr_int, Nat.sub_self, Nat.zero_add, Nat.reduceAdd, Nat.reduceSub, atI_0, atI_1, atI_2, atI_3, atI_4, Int.reduceNeg, Ev.pow_int, and_self, Bool.false_eq_true, reduceCtorEq, Option.bind_some, Option.bind_none, id_eq, Int.le_refl, Int.lt_irrefl, Int.reduceEq, Int.reduceNe, Int.reduceLT, Int.reduceLE, Int.reducePow, Int.reduceToNat, Int.reduceAbs, Nat.reducePow, Nat.reduceLT, Nat.reduceLeDiff, Nat.reduceEqDiff, Nat.reduceMul, idx_fr0, num0, f0, inner]
      rw [e]
      exact .next ⟨⟨_, _, rfl⟩, rfl⟩
    · obtain ⟨⟨y', z', rfl⟩, rfl⟩ := hI
      rw [v2]
      exact ⟨y', z', by rw [List.take_length, List.take_of_length_le (by omega)]⟩
  obtain ⟨y, z, e⟩ := loop
  rw [call_of hT]
  unfold b_p_combined
  generalize f_p_combined_1 = C1 at *
  generalize c_p_combined_1 = C2 at *
  simp -implicitDefEqProofs only [varE_ev, cE_ev, argsE_nil, argsE_cons, aK1_ok, aK2_ok, tupE_ev, tupK_ok, lstE_ev, lstK_ok, dctE_ev, newL_t, newL_f, newD_t, newD_f, binE_ev, binK1_ok, binK2_ok, idxE_ev, idxK1_ok, idxK2_ok, cmpE_ev, cmpK1_ok, cmpK2_ok, optV_s, optB_s, testB_ev, testK_ok, truE_ev, truK_ok, truO_s, notT_ev, notK_ok, andT_ev, andK_t, andK_f, orT_ev, orK_t, orK_f, andE_ev, andV1_ok, andV2_t, andV2_f, orE_ev, orV1_ok, orV2_t, orV2_f, notE_ev, notV1_ok, notV2_s, negE_ev, negK_ok, ifE_ev, ifV_t, ifV_f, chainE_ev, chK1_ok, chK2_ok, chK3_t, chK3_f, chK4_ok, partE_ev, partK_ok, noE_ev, sliceE_ev, slK1_ok, slK2_ok, slK3_ok, callE_ev, callK_ok, biE_ev, biK_ok, appE_ev, apK2_ok, getE_ev, geK2_ok, get2E_ev, gfK2_ok, gfK3_ok, geO_ok, asgN_ev, asgK_ok, asgT_ev, asgTK_ok, asgO_s, putE_ev, putK1_ok, putK2_ok, putK3_ok, putK4_ok, retE_ev, retK_ok, retN_ev, exprS_ev, exprK_ok, passS_ev, breakS_ev, contS_ev, ifS_ev, ifK_t, ifK_f, blkS_nil, blkS_cons, blkK_n, blkK_r, blkK_b, blkK_c, finK_r, finK_n, stT_nm, stT_tp, stTs_nil, stTs_cons, stO_s, Ev.add_int, Ev.sub_int, mul_intE, div_int, mod_intE, lt_intE, gt_intE, le_intE, ge_intE, eq_intE, ne_intE, eq_strE, ne_strE, eq_blE, ne_blE, is_nonE, is_blE, isnot_nonE, idx_lst, idx_tup, idx_refI, idx_refS, idx_dctI, idx_dctS, setL_lst, setL_str, ix4_0, ix4_1, ix4_2, ix4_3, fin_f, List.map, List.replicate, List.length_cons, List.length_nil, List.nil_append, List.cons_append, List.getElem?_cons_zero, List.getElem?_cons_succ, List.set_cons_zero, List.set_cons_succ, if_true, if_false, decide_true, decide_false, Bool.not_true, Bool.not_false, ite_true, ite_false, Ev.bi_len, lenO_s, bi_int, bi_intb, bi_abs, bi_min, bi_max, bi_gcd, bi_str, tr_bl, tr_int, Nat.sub_self, Nat.zero_add, Nat.reduceAdd, Nat.reduceSub, atI_0, atI_1, atI_2, atI_3, atI_4, Int.reduceNeg, Ev.pow_int, and_self, Bool.false_eq_true, reduceCtorEq, Option.bind_some, Option.bind_none, id_eq, Int.le_refl, Int.lt_irrefl, Int.reduceEq, Int.reduceNe, Int.reduceLT, Int.reduceLE, Int.reducePow, Int.reduceToNat, Int.reduceAbs, Nat.reducePow, Nat.reduceLT, Nat.reduceLeDiff, Nat.reduceEqDiff, Nat.reduceMul, first, e]
/-- _law_combined -/
theorem lcombined_eq {rs : List (List Rat)} {fs : List Rat} {c : Nat} (hG : Has T "_law_gcd" 3 false b_law_gcd) (hR : Has T "_law_ratio" 3 false b_law_ratio) (hS : Has T "_law_sub" 2 false b_law_sub) (hM : Has T "_law_mul" 2 false b_law_mul) (hN : Has T "_law_minus" 4 false b_law_minus) (hT : Has T "_law_combined" 6 false b_law_combined) (hv : Mat L v rs) (hw : Row L w fs) (hl : fs.length = rs.length) (hr : Rows m c rs) (hf : AllSz n fs) (hs : c ≤ 1000) (hs2 : rs.length ≤ 1000) (h9 : rs.length * (m + n + 5) + (m + n + 9) < 8990) :
    evCall T (k + 5) "_law_combined" [v, w, .int c] L = .ok (.lst ((comb rs fs c).map fr)) L := by
  have first : c_law_combined_1 (evCall T (k + 4)) [some v, some w, some (.int c), none, none, none] L = .ok (.lst ((List.replicate c (0 : Rat)).map fr)) L := by
    unfold c_law_combined_1
    have e0 : varE 2 (evCall T (k + 4)) [some v, some w, some (.int c), none, none, none] L = .ok (.int c) L := by simp -implicitDefEqProofs only [varE_ev, cE_ev, argsE_nil, argsE_cons, aK1_ok, aK2_ok, tupE_ev, tupK_ok, lstE_ev, lstK_ok, dctE_ev, newL_t, newL_f, newD_t, newD_f, binE_ev, binK1_ok, binK2_ok, idxE_ev, idxK1_ok, idxK2_ok, cmpE_ev, cmpK1_ok, cmpK2_ok, optV_s, optB_s, testB_ev, testK_ok, truE_ev, truK_ok, truO_s, notT_ev, notK_ok, andT_ev, andK_t, andK_f, orT_ev, orK_t, orK_f, andE_ev, andV1_ok, andV2_t, andV2_f, orE_ev, orV1_ok, orV2_t, orV2_f, notE_ev, notV1_ok, notV2_s, negE_ev, negK_ok, ifE_ev, ifV_t, ifV_f, chainE_ev, chK1_ok, chK2_ok, chK3_t, chK3_f, chK4_ok, partE_ev, partK_ok, noE_ev, sliceE_ev, slK1_ok, slK2_ok, slK3_ok, callE_ev, callK_ok, biE_ev, biK_ok, appE_ev, apK2_ok, getE_ev, geK2_ok, get2E_ev, gfK2_ok, gfK3_ok, geO_ok, asgN_ev, asgK_ok, asgT_ev, asgTK_ok, asgO_s, putE_ev, putK1_ok, putK2_ok, putK3_ok, putK4_ok, retE_ev, retK_ok, retN_ev, exprS_ev, exprK_ok, passS_ev, breakS_ev, contS_ev, ifS_ev, ifK_t, ifK_f, blkS_nil, blkS_cons, blkK_n, blkK_r, blkK_b, blkK_c, finK_r, finK_n, stT_nm, stT_tp, stTs_nil, stTs_cons, stO_s, Ev.add_int, Ev.sub_int, mul_intE, div_int, mod_intE, lt_intE, gt_intE, le_intE, ge_intE, eq_intE, ne_intE, eq_strE, ne_strE, eq_blE, ne_blE, is_nonE, is_blE, isnot_nonE, idx_lst, idx_tup, idx_refI, idx_refS, idx_dctI, idx_dctS, setL_lst, setL_str, ix4_0, ix4_1, ix4_2, ix4_3, fin_f, List.map, List.replicate, List.length_cons, List.length_nil, List.nil_append, List.cons_append, List.getElem?_cons_zero, List.getElem?_cons_succ, List.set_cons_zero, List.set_cons_succ, if_true, if_false, decide_true, decide_false, Bool.not_true, Bool.not_false, ite_true, ite_false, Ev.bi_len, lenO_s, bi_int, bi_intb, bi_abs, bi_min, bi_max, bi_gcd, bi_str, tr_bl, tr_int, Nat.sub_self, Nat.zero_add, Nat.reduceAdd, Nat.reduceSub, atI_0, atI_1, atI_2, atI_3, atI_4, Int.reduceNeg, Ev.pow_int, and_self, Bool.false_eq_true, reduceCtorEq, Option.bind_some, Option.bind_none, id_eq, Int.le_refl, Int.lt_irrefl, Int.reduceEq, Int.reduceNe, Int.reduceLT, Int.reduceLE, Int.reducePow, Int.reduceToNat, Int.reduceAbs, Nat.reducePow, Nat.reduceLT, Nat.reduceLeDiff, Nat.reduceEqDiff, Nat.reduceMul]
    rw [lc_rng (zs := (List.replicate c (0 : Rat)).map fr) e0 (by simp) (small_line (by omega))]
    · rfl
    · intro i z hi hz
      obtain ⟨u, hu, rfl⟩ := row_get hz
      have : u = 0 := List.eq_of_mem_replicate (List.mem_of_getElem? hu)
      subst this
      exact ⟨_, stT_nm, rfl, by simp -implicitDefEqProofs only [varE_ev, cE_ev, argsE_nil, argsE_cons, aK1_ok, aK2_ok, tupE_ev, tupK_ok, lstE_ev, lstK_ok, dctE_ev, newL_t, newL_f, newD_t, newD_f, binE_ev, binK1_ok, binK2_ok, idxE_ev, idxK1_ok, idxK2_ok, cmpE_ev, cmpK1_ok, cmpK2_ok, optV_s, optB_s, testB_ev, testK_ok, truE_ev, truK_ok, truO_s, notT_ev, notK_ok, andT_ev, andK_t, andK_f, orT_ev, orK_t, orK_f, andE_ev, andV1_ok, andV2_t, andV2_f, orE_ev, orV1_ok, orV2_t, orV2_f, notE_ev, notV1_ok, notV2_s, negE_ev, negK_ok, ifE_ev, ifV_t, ifV_f, chainE_ev, chK1_ok, chK2_ok, chK3_t, chK3_f, chK4_ok, partE_ev, partK_ok, noE_ev, sliceE_ev, slK1_ok, slK2_ok, slK3_ok, callE_ev, callK_ok, biE_ev, biK_ok, appE_ev, apK2_ok, getE_ev, geK2_ok, get2E_ev, gfK2_ok, gfK3_ok, geO_ok, asgN_ev, asgK_ok, asgT_ev, asgTK_ok, asgO_s, putE_ev, putK1_ok, putK2_ok, putK3_ok, putK4_ok, retE_ev, retK_ok, retN_ev, exprS_ev, exprK_ok, passS_ev, breakS_ev, contS_ev, ifS_ev, ifK_t, ifK_f, blkS_nil, blkS_cons, blkK_n, blkK_r, blkK_b, blkK_c, finK_r, finK_n, stT_nm, stT_tp, stTs_nil, stTs_cons, stO_s, Ev.add_int, Ev.sub_int, mul_intE, div_int, mod_intE, lt_intE, gt_intE, le_intE, ge_intE, eq_intE, ne_intE, eq_strE, ne_strE, eq_blE, ne_blE, is_nonE, is_blE, isnot_nonE, idx_lst, idx_tup, idx_refI, idx_refS, idx_dctI, idx_dctS, setL_lst, setL_str, ix4_0, ix4_1, ix4_2, ix4_3, fin_f, List.map, List.replicate, List.length_cons, List.length_nil, List.nil_append, List.cons_append, List.getElem?_cons_zero, List.getElem?_cons_succ, List.set_cons_zero, List.set_cons_succ, if_true, if_false, decide_true, decide_false, Bool.not_true, Bool.not_false, ite_true, ite_false, Ev.bi_len, lenO_s, bi_int, bi_intb, bi_abs, bi_min, bi_max, bi_gcd, bi_str, tr_bl, tr_int, Nat.sub_self, Nat.zero_add, Nat.reduceAdd, Nat.reduceSub, atI_0, atI_1, atI_2, atI_3, atI_4, Int.reduceNeg, Ev.pow_int, and_self, Bool.false_eq_true, reduceCtorEq, Option.bind_some, Option.bind_none, id_eq, Int.le_refl, Int.lt_irrefl, Int.reduceEq, Int.reduceNe, Int.reduceLT, Int.reduceLE, Int.reducePow, Int.reduceToNat, Int.reduceAbs, Nat.reducePow, Nat.reduceLT, Nat.reduceLeDiff, Nat.reduceEqDiff, Nat.reduceMul, fr_0]⟩
  have loop : ∃ y, f_law_combined_1 (evCall T (k + 4)) [some v, some w, some (.int c), some (.lst ((List.replicate c (0 : Rat)).map fr)), none, none] L = .ok (.next, [some v, some w, some (.int c), some (.lst ((comb rs fs c).map fr)), y, none]) L := by
    unfold f_law_combined_1
    have e0 : biE .len false [varE 0] (evCall T (k + 4)) [some v, some w, some (.int c), some (.lst ((List.replicate c (0 : Rat)).map fr)), none, none] L = .ok (.int rs.length) L := by simp -implicitDefEqProofs only [varE_ev, cE_ev, argsE_nil, argsE_cons, aK1_ok, aK2_ok, tupE_ev, tupK_ok, lstE_ev, lstK_ok, dctE_ev, newL_t, newL_f, newD_t, newD_f, binE_ev, binK1_ok, binK2_ok, idxE_ev, idxK1_ok, idxK2_ok, cmpE_ev, cmpK1_ok, cmpK2_ok, optV_s, optB_s, testB_ev, testK_ok, truE_ev, truK_ok, truO_s, notT_ev, notK_ok, andT_ev, andK_t, andK_f, orT_ev, orK_t, orK_f, andE_ev, andV1_ok, andV2_t, andV2_f, orE_ev, orV1_ok, orV2_t, orV2_f, notE_ev, notV1_ok, notV2_s, negE_ev, negK_ok, ifE_ev, ifV_t, ifV_f, chainE_ev, chK1_ok, chK2_ok, chK3_t, chK3_f, chK4_ok, partE_ev, partK_ok, noE_ev, sliceE_ev, slK1_ok, slK2_ok, slK3_ok, callE_ev, callK_ok, biE_ev, biK_ok, appE_ev, apK2_ok, getE_ev, geK2_ok, get2E_ev, gfK2_ok, gfK3_ok, geO_ok, asgN_ev, asgK_ok, asgT_ev, asgTK_ok, asgO_s, putE_ev, putK1_ok, putK2_ok, putK3_ok, putK4_ok, retE_ev, retK_ok, retN_ev, exprS_ev, exprK_ok, passS_ev, breakS_ev, contS_ev, ifS_ev, ifK_t, ifK_f, blkS_nil, blkS_cons, blkK_n, blkK_r, blkK_b, blkK_c, finK_r, finK_n, stT_nm, stT_tp, stTs_nil, stTs_cons, stO_s, Ev.add_int, Ev.sub_int, mul_intE, div_int, mod_intE, lt_intE, gt_intE, le_intE, ge_intE, eq_intE, ne_intE, eq_strE, ne_strE, eq_blE, ne_blE, is_nonE, is_blE, isnot_nonE, idx_lst, idx_tup, idx_refI, idx_refS, idx_dctI, idx_dctS, setL_lst, setL_str, ix4_0, ix4_1, ix4_2, ix4_3, fin_f, List.map, List.replicate, List.length_cons, List.length_nil, List.nil_append, List.cons_append, List.getElem?_cons_zero, List.getElem?_cons_succ, List.set_cons_zero, List.set_cons_succ, if_true, if_false, decide_true, decide_false, Bool.not_true, Bool.not_false, ite_true, ite_false, Ev.bi_len, lenO_s, bi_int, bi_intb, bi_abs, bi_min, bi_max, bi_gcd, bi_str, tr_bl, tr_int, Nat.sub_self, Nat.zero_add, Nat.reduceAdd, Nat.reduceSub, atI_0, atI_1, atI_2, atI_3, atI_4, Int.reduceNeg, Ev.pow_int, and_self, Bool.false_eq_true, reduceCtorEq, Option.bind_some, Option.bind_none, id_eq, Int.le_refl, Int.lt_irrefl, Int.reduceEq, Int.reduceNe, Int.reduceLT, Int.reduceLE, Int.reducePow, Int.reduceToNat, Int.reduceAbs, Nat.reducePow, Nat.reduceLT, Nat.reduceLeDiff, Nat.reduceEqDiff, Nat.reduceMul, hv.len]
    refine for_range (P := fun r => ∃ y, r = .ok (.next, [some v, some w, some (.int c), some (.lst ((comb rs fs c).map fr)), y, none]) L) (j := rs.length)
      (fun i s L' => i ≤ rs.length ∧ (∃ y, s = [some v, some w, some (.int c), some (.lst ((comb (rs.take i) (fs.take i) c).map fr)), y, none]) ∧ L' = L) e0 (by omega) ⟨Nat.zero_le _, ⟨none, by rw [List.take_zero, List.take_zero]; rfl⟩, rfl⟩ (fun i s L' hi hI => ?_) (fun s L' hI => ?_)
    · obtain ⟨_, ⟨y', rfl⟩, rfl⟩ := hI
      have hi : i < rs.length := by omega
      have hp : rs[i]? = some rs[i] := List.getElem?_eq_getElem hi
      have hrm : rs[i] ∈ rs := List.getElem_mem _
      generalize rs[i] = r at *
      have hq : fs[i]? = some (fs[i]'(by omega)) := List.getElem?_eq_getElem _
      generalize (fs[i]'(by omega)) = f at *
      obtain ⟨u, h1, h2⟩ := hv.at hp
      obtain ⟨c1, c2⟩ := comb_ok hr hf hl i (by omega)
      have rl := hr.len r hrm
      have hb1 : i * (m + n + 3) ≤ rs.length * (m + n + 5) := Nat.mul_le_mul (by omega) (by omega)
      have sf : Sz (n + 2) (0 - f) := (sz_sub (sz_zero (n := 0)) (hf.at hq)).mono (by omega)
      have e1 := lsub_eq hG hR hS (k + 1) L' (sz_zero (n := 0)) (hf.at hq) (by omega)
      rw [fr_0] at e1
      have e2 := minus_eq (k := k) hG hR hS hM hN (Row.lst (L := L') (comb (rs.take i) (fs.take i) c)) h2 (by omega) c2 (hr.sz r hrm) sf (by omega) (by omega)
      rw [axpy_minus, ← comb_take hp hq] at e2
      refine ⟨_, stT_nm, ?_⟩
      have e : l_law_combined_1 (evCall T (k + 4)) ([some v, some w, some (.int c), some (.lst ((comb (rs.take i) (fs.take i) c).map fr)), y', none].set 4 (some (.int i))) L' = .ok (.next, [some v, some w, some (.int c), some (.lst ((comb (rs.take (i + 1)) (fs.take (i + 1)) c).map fr)), some (.int i), none]) L' := by
        unfold l_law_combined_1
        simp -implicitDefEqProofs only [varE_ev, cE_ev, argsE_nil, argsE_cons, aK1_ok, aK2_ok, tupE_ev, tupK_ok, lstE_ev, lstK_ok, dctE_ev, newL_t, newL_f, newD_t, newD_f, binE_ev, binK1_ok, binK2_ok, idxE_ev, idxK1_ok, idxK2_ok, cmpE_ev, cmpK1_ok, cmpK2_ok, optV_s, optB_s, testB_ev, testK_ok, truE_ev, truK_ok, truO_s, notT_ev, notK_ok, andT_ev, andK_t, andK_f, orT_ev, orK_t, orK_f, andE_ev, andV1_ok, andV2_t, andV2_f, orE_ev, orV1_ok, orV2_t, orV2_f, notE_ev, notV1_ok, notV2_s, negE_ev, negK_ok, ifE_ev, ifV_t, ifV_f, chainE_ev, chK1_ok, chK2_ok, chK3_t, chK3_f, chK4_ok, partE_ev, partK_ok, noE_ev, sliceE_ev, slK1_ok, slK2_ok, slK3_ok, callE_ev, callK_ok, biE_ev, biK_ok, appE_ev, apK2_ok, getE_ev, geK2_ok, get2E_ev, gfK2_ok, gfK3_ok, geO_ok, asgN_ev, asgK_ok, asgT_ev, asgTK_ok, asgO_s, putE_ev, putK1_ok, putK2_ok, putK3_ok, putK4_ok, retE_ev, retK_ok, retN_ev, exprS_ev, exprK_ok, passS_ev, breakS_ev, contS_ev, ifS_ev, ifK_t, ifK_f, blkS_nil, blkS_cons, blkK_n, blkK_r, blkK_b, blkK_c, finK_r, finK_n, stT_nm, stT_tp, stTs_nil, stTs_cons, stO_s, Ev.add_int, Ev.sub_int, mul_intE, div_int, mod_intE, lt_intE, gt_intE, le_intE, ge_intE, eq_intE, ne_intE, eq_strE, ne_strE, eq_blE, ne_blE, is_nonE, is_blE, isnot_nonE, idx_lst, idx_tup, idx_refI, idx_refS, idx_dctI, idx_dctS, setL_lst, setL_str, ix4_0, ix4_1, ix4_2, ix4_3, fin_f, List.map, List.replicate, List.length_cons, List.length_nil, List.nil_append, List.cons_append, List.getElem?_cons_zero, List.getElem?_cons_succ, List.set_cons_zero, List.set_cons_succ, if_true, if_false, decide_true, decide_false, Bool.not_true, Bool.not_false, ite_true, ite_false, Ev.bi_len, lenO_s, bi_int, bi_intb, bi_abs, bi_min, bi_max, bi_gcd, bi_str, tr_bl, tr_int, Nat.sub_self, Nat.zero_add, Nat.reduceAdd, Nat.reduceSub, atI_0, atI_1, atI_2, atI_3, atI_4, Int.reduceNeg, Ev.pow_int, and_self, Bool.false_eq_true, reduceCtorEq, Option.bind_some, Option.bind_none, id_eq, Int.le_refl, Int.lt_irrefl, Int.reduceEq, Int.reduceNe, Int.reduceLT, Int.reduceLE, Int.reducePow, Int.reduceToNat, Int.reduceAbs, Nat.reducePow, Nat.reduceLT, Nat.reduceLeDiff, Nat.reduceEqDiff, Nat.reduceMul, h1, hw.at hq, e1, e2]
      rw [e]
      exact .next ⟨by omega, ⟨_, rfl⟩, rfl⟩
    · obtain ⟨_, ⟨y', rfl⟩, rfl⟩ := hI
      exact ⟨y', by rw [Int.toNat_natCast, List.take_length, List.take_of_length_le (by omega)]⟩
  obtain ⟨y, e⟩ := loop
  rw [call_of hT]
  unfold b_law_combined
  generalize f_law_combined_1 = C1 at *
  generalize c_law_combined_1 = C2 at *
  simp -implicitDefEqProofs only [varE_ev, cE_ev, argsE_nil, argsE_cons, aK1_ok, aK2_ok, tupE_ev, tupK_ok, lstE_ev, lstK_ok, dctE_ev, newL_t, newL_f, newD_t, newD_f, binE_ev, binK1_ok, binK2_ok, idxE_ev, idxK1_ok, idxK2_ok, cmpE_ev, cmpK1_ok, cmpK2_ok, optV_s, optB_s, testB_ev, testK_ok, truE_ev, truK_ok, truO_s, notT_ev, notK_ok, andT_ev, andK_t, andK_f, orT_ev, orK_t, orK_f, andE_ev, andV1_ok, andV2_t, andV2_f, orE_ev, orV1_ok, orV2_t, orV2_f, notE_ev, notV1_ok, notV2_s, negE_ev, negK_ok, ifE_ev, ifV_t, ifV_f, chainE_ev, chK1_ok, chK2_ok, chK3_t, chK3_f, chK4_ok, partE_ev, partK_ok, noE_ev, sliceE_ev, slK1_ok, slK2_ok, slK3_ok, callE_ev, callK_ok, biE_ev, biK_ok, appE_ev, apK2_ok, getE_ev, geK2_ok, get2E_ev, gfK2_ok, gfK3_ok, geO_ok, asgN_ev, asgK_ok, asgT_ev, asgTK_ok, asgO_s, putE_ev, putK1_ok, putK2_ok, putK3_ok, putK4_ok, retE_ev, retK_ok, retN_ev, exprS_ev, exprK_ok, passS_ev, breakS_ev, contS_ev, ifS_ev, ifK_t, ifK_f, blkS_nil, blkS_cons, blkK_n, blkK_r, blkK_b, blkK_c, finK_r, finK_n, stT_nm, stT_tp, stTs_nil, stTs_cons, stO_s, Ev.add_int, Ev.sub_int, mul_intE, div_int, mod_intE, lt_intE, gt_intE, le_intE, ge_intE, eq_intE, ne_intE, eq_strE, ne_strE, eq_blE, ne_blE, is_nonE, is_blE, isnot_nonE, idx_lst, idx_tup, idx_refI, idx_refS, idx_dctI, idx_dctS, setL_lst, setL_str, ix4_0, ix4_1, ix4_2, ix4_3, fin_f, List.map, List.replicate, List.length_cons, List.length_nil, List.nil_append, List.cons_append, List.getElem?_cons_zero, List.getElem?_cons_succ, List.set_cons_zero, List.set_cons_succ, if_true, if_false, decide_true, decide_false, Bool.not_true, Bool.not_false, ite_true, ite_false, Ev.bi_len, lenO_s, bi_int, bi_intb, bi_abs, bi_min, bi_max, bi_gcd, bi_str, tr_bl, tr_int, Nat.sub_self, Nat.zero_add, Nat.reduceAdd, Nat.reduceSub, atI_0, atI_1, atI_2, atI_3, atI_4, Int.reduceNeg, Ev.pow_int, and_self, Bool.false_eq_true, reduceCtorEq, Option.bind_some, Option.bind_none, id_eq, Int.le_refl, Int.lt_irrefl, Int.reduceEq, Int.reduceNe, Int.reduceLT, Int.reduceLE, Int.reducePow, Int.reduceToNat, Int.reduceAbs, Nat.reducePow, Nat.reduceLT, Nat.reduceLeDiff, Nat.reduceEqDiff, Nat.reduceMul, first, e]
/-- _law_first: whether all is 0 -/
theorem first_eq (hT : Has T "_law_first" 2 false b_law_first) (hv : Row L v a) (hs : a.length ≤ 1000) : ∃ i : Int, evCall T (k + 1) "_law_first" [v] L = .ok (.int i) L ∧ (i < 0 ↔ ∀ q ∈ a, q = 0) := by
  have loop : (∃ i : Nat, (∃ y, f_law_first_1 (evCall T k) [some v, none] L = .ok (.ret (.int i), [some v, y]) L) ∧ ¬ ∀ q ∈ a, q = 0) ∨ ((∃ y, f_law_first_1 (evCall T k) [some v, none] L = .ok (.next, [some v, y]) L) ∧ ∀ q ∈ a, q = 0) := by
    unfold f_law_first_1
    have e0 : biE .len false [varE 0] (evCall T k) [some v, none] L = .ok (.int a.length) L := by simp -implicitDefEqProofs only [varE_ev, cE_ev, argsE_nil, argsE_cons, aK1_ok, aK2_ok, tupE_ev, tupK_ok, lstE_ev, lstK_ok, dctE_ev, newL_t, newL_f, newD_t, newD_f, binE_ev, binK1_ok, binK2_ok, idxE_ev, idxK1_ok, idxK2_ok, cmpE_ev, cmpK1_ok, cmpK2_ok, optV_s, optB_s, testB_ev, testK_ok, truE_ev, truK_ok, truO_s, notT_ev, notK_ok, andT_ev, andK_t, andK_f, orT_ev, orK_t, orK_f, andE_ev, andV1_ok, andV2_t, andV2_f, orE_ev, orV1_ok, orV2_t, orV2_f, notE_ev, notV1_ok, notV2_s, negE_ev, negK_ok, ifE_ev, ifV_t, ifV_f, chainE_ev, chK1_ok, chK2_ok, chK3_t, chK3_f, chK4_ok, partE_ev, partK_ok, noE_ev, sliceE_ev, slK1_ok, slK2_ok, slK3_ok, callE_ev, callK_ok, biE_ev, biK_ok, appE_ev, apK2_ok, getE_ev, geK2_ok, get2E_ev, gfK2_ok, gfK3_ok, geO_ok, asgN_ev, asgK_ok, asgT_ev, asgTK_ok, asgO_s, putE_ev, putK1_ok, putK2_ok, putK3_ok, putK4_ok, retE_ev, retK_ok, retN_ev, exprS_ev, exprK_ok, passS_ev, breakS_ev, contS_ev, ifS_ev, ifK_t, ifK_f, blkS_nil, blkS_cons, blkK_n, blkK_r, blkK_b, blkK_c, finK_r, finK_n, stT_nm, stT_tp, stTs_nil, stTs_cons, stO_s, Ev.add_int, Ev.sub_int, mul_intE, div_int, mod_intE, lt_intE, gt_intE, le_intE, ge_intE, eq_intE, ne_intE, eq_strE, ne_strE, eq_blE, ne_blE, is_nonE, is_blE, isnot_nonE, idx_lst, idx_tup, idx_refI, idx_refS, idx_dctI, idx_dctS, setL_lst, setL_str, ix4_0, ix4_1, ix4_2, ix4_3, fin_f, List.map, List.replicate, List.length_cons, List.length_nil, List.nil_append, List.cons_append, List.getElem?_cons_zero, List.getElem?_cons_succ, List.set_cons_zero, List.set_cons_succ, if_true, if_false, decide_true, decide_false, Bool.not_true, Bool.not_false, ite_true, ite_false, Ev.bi_len, lenO_s, bi_int, bi_intb, bi_abs, bi_min, bi_max, bi_gcd, bi_str, tr_bl, tr_int, Nat.sub_self, Nat.zero_add, Nat.reduceAdd, Nat.reduceSub, atI_0, atI_1, atI_2, atI_3, atI_4, Int.reduceNeg, Ev.pow_int, and_self, Bool.false_eq_true, reduceCtorEq, Option.bind_some, Option.bind_none, id_eq, Int.le_refl, Int.lt_irrefl, Int.reduceEq, Int.reduceNe, Int.reduceLT, Int.reduceLE, Int.reducePow, Int.reduceToNat, Int.reduceAbs, Nat.reducePow, Nat.reduceLT, Nat.reduceLeDiff, Nat.reduceEqDiff, Nat.reduceMul, hv.len]
    refine for_range (P := fun r => (∃ i : Nat, (∃ y, r = .ok (.ret (.int i), [some v, y]) L) ∧ ¬ ∀ q ∈ a, q = 0) ∨ ((∃ y, r = .ok (.next, [some v, y]) L) ∧ ∀ q ∈ a, q = 0)) (j := a.length)
      (fun i s L' => (∃ y, s = [some v, y]) ∧ L' = L ∧ ∀ q ∈ a.take i, q = 0) e0 (by omega) ⟨⟨none, rfl⟩, rfl, by simp⟩ (fun i s L' hi hI => ?_) (fun s L' hI => ?_)
    · obtain ⟨⟨y', rfl⟩, rfl, hz⟩ := hI
      have hi : i < a.length := by omega
      have hp : a[i]? = some a[i] := List.getElem?_eq_getElem hi
      generalize a[i] = p at *
      refine ⟨_, stT_nm, ?_⟩
      by_cases p0 : p = 0
      · have e : l_law_first_1 (evCall T k) ([some v, y'].set 1 (some (.int i))) L' = .ok (.next, [some v, some (.int i)]) L' := by
          unfold l_law_first_1
          simp -implicitDefEqProofs only [varE_ev, cE_ev, argsE_nil, argsE_cons, aK1_ok, aK2_ok, tupE_ev, tupK_ok, lstE_ev, lstK_ok, dctE_ev, newL_t, newL_f, newD_t, newD_f, binE_ev, binK1_ok, binK2_ok, idxE_ev, idxK1_ok, idxK2_ok, cmpE_ev, cmpK1_ok, cmpK2_ok, optV_s, optB_s, testB_ev, testK_ok, truE_ev, truK_ok, truO_s, notT_ev, notK_ok, andT_ev, andK_t, andK_f, orT_ev, orK_t, orK_f, andE_ev, andV1_ok, andV2_t, andV2_f, orE_ev, orV1_ok, orV2_t, orV2_f, notE_ev, notV1_ok, notV2_s, negE_ev, negK_ok, ifE_ev, ifV_t, ifV_f, chainE_ev, chK1_ok, chK2_ok, chK3_t, chK3_f, chK4_ok, partE_ev, partK_ok, noE_ev, sliceE_ev, slK1_ok, slK2_ok, slK3_ok, callE_ev, callK_ok, biE_ev, biK_ok, appE_ev, apK2_ok, getE_ev, geK2_ok, get2E_ev, gfK2_ok, gfK3_ok, geO_ok, asgN_ev, asgK_ok, asgT_ev, asgTK_ok, asgO_s, putE_ev, putK1_ok, putK2_ok, putK3_ok, putK4_ok, retE_ev, retK_ok, retN_ev, exprS_ev, exprK_ok, passS_ev, breakS_ev, contS_ev, ifS_ev, ifK_t, ifK_f, blkS_nil, blkS_cons, blkK_n, blkK_r, blkK_b, blkK_c, finK_r, finK_n, stT_nm, stT_tp, stTs_nil, stTs_cons, stO_s, Ev.add_int, Ev.sub_int, mul_intE, div_int, mod_intE, lt_intE, gt_intE, le_intE, ge_intE, eq_intE, ne_intE, eq_strE, ne_strE, eq_blE, ne_blE, is_nonE, is_blE, isnot_nonE, idx_lst, idx_tup, idx_refI, idx_refS, idx_dctI, idx_dctS, setL_lst, setL_str, ix4_0, ix4_1, ix4_2, ix4_3, fin_f, List.map, List.replicate, List.length_cons, List.length_nil, List.nil_append, List.cons_append, List.getElem?_cons_zero, List.getElem?_cons_succ, List.set_cons_zero, List.set_cons_succ, if_true, if_false, decide_true, decide_false, Bool.not_true, Bool.not_false, ite_true, ite_false, Ev.bi_len, lenO_s, bi_int, bi_intb, bi_abs, bi_min, bi_max, bi_gcd, bi_str, tr_bl, tr_int, Nat.sub_self, Nat.zero_add, Nat.reduceAdd, Nat.reduceSub, atI_0, atI_1, atI_2, atI_3, atI_4, Int.reduceNeg, Ev.pow_int, and_self, Bool.false_eq_true, reduceCtorEq, Option.bind_some, Option.bind_none, id_eq, Int.le_refl, Int.lt_irrefl, Int.reduceEq, Int.reduceNe, Int.reduceLT, Int.reduceLE, Int.reducePow, Int.reduceToNat, Int.reduceAbs, Nat.reducePow, Nat.reduceLT, Nat.reduceLeDiff, Nat.reduceEqDiff, Nat.reduceMul, hv.at hp, idx_fr0, num0, p0]
        rw [e]
        refine .next ⟨⟨_, rfl⟩, rfl, fun q hq => ?_⟩
        rw [List.take_add_one, hp] at hq
        rcases List.mem_append.mp hq with h | h
        · exact hz q h
        · have : q = p := by simpa using h
          rw [this, p0]
      · have e : l_law_first_1 (evCall T k) ([some v, y'].set 1 (some (.int i))) L' = .ok (.ret (.int i), [some v, some (.int i)]) L' := by
          unfold l_law_first_1
          simp -implicitDefEqProofs only [varE_ev, cE_ev, argsE_nil, argsE_cons, aK1_ok, aK2_ok, tupE_ev, tupK_ok, lstE_ev, lstK_ok, dctE_ev, newL_t, newL_f, newD_t, newD_f, binE_ev, binK1_ok, binK2_ok, idxE_ev, idxK1_ok, idxK2_ok, cmpE_ev, cmpK1_ok, cmpK2_ok, optV_s, optB_s, testB_ev, testK_ok, truE_ev, truK_ok, truO_s, notT_ev, notK_ok, andT_ev, andK_t, andK_f, orT_ev, orK_t, orK_f, andE_ev, andV1_ok, andV2_t, andV2_f, orE_ev, orV1_ok, orV2_t, orV2_f, notE_ev, notV1_ok, notV2_s, negE_ev, negK_ok, ifE_ev, ifV_t, ifV_f, chainE_ev, chK1_ok, chK2_ok, chK3_t, chK3_f, chK4_ok, partE_ev, partK_ok, noE_ev, sliceE_ev, slK1_ok, slK2_ok, slK3_ok, callE_ev, callK_ok, biE_ev, biK_ok, appE_ev, apK2_ok, getE_ev, geK2_ok, get2E_ev, gfK2_ok, gfK3_ok, geO_ok, asgN_ev, asgK_ok, asgT_ev, asgTK_ok, asgO_s, putE_ev, putK1_ok, putK2_ok, putK3_ok, putK4_ok, retE_ev, retK_ok, retN_ev, exprS_ev, exprK_ok, passS_ev, breakS_ev, contS_ev, ifS_ev, ifK_t, ifK_f, blkS_nil, blkS_cons, blkK_n, blkK_r, blkK_b, blkK_c, finK_r, finK_n, stT_nm, stT_tp, stTs_nil, stTs_cons, stO_s, Ev.add_int, Ev.sub_int, mul_intE, div_int, mod_intE, lt_intE, gt_intE, le_intE, ge_intE, eq_intE, ne_intE, eq_strE, ne_strE, eq_blE, ne_blE, is_nonE, is_blE, isnot_nonE, idx_lst, idx_tup, idx_refI, idx_refS, idx_dctI, idx_dctS, setL_lst, setL_str, ix4_0, ix4_1, ix4_2, ix4_3, fin_f, List.map, List.replicate, List.length_cons, List.length_nil, List.nil_append, List.cons_append, List.getElem?_cons_zero, List.getElem?_cons_succ, List.set_cons_zero, List.set_cons_succ, if_true, if_false, decide_true, decide_false, Bool.not_true, Bool.not_false, ite_true, ite_false, Ev.bi_len, lenO_s, bi_int, bi_intb, bi_abs, bi_min, bi_max, bi_gcd, bi_str, tr_bl, tr_int, Nat.sub_self, Nat.zero_add, Nat.reduceAdd, Nat.reduceSub, atI_0, atI_1, atI_2, atI_3, atI_4, Int.reduceNeg, Ev.pow_int, and_self, Bool.false_eq_true, reduceCtorEq, Option.bind_some, Option.bind_none, id_eq, Int.le_refl, Int.lt_irrefl, Int.reduceEq, Int.reduceNe, Int.reduceLT, Int.reduceLE, Int.reducePow, Int.reduceToNat, Int.reduceAbs, Nat.reducePow, Nat.reduceLT, Nat.reduceLeDiff, Nat.reduceEqDiff, Nat.reduceMul, hv.at hp, idx_fr0, num0, p0]
        rw [e]
        exact .ret (.inl ⟨i, ⟨_, rfl⟩, fun h => p0 (h p (List.mem_of_getElem? hp))⟩)
    · obtain ⟨⟨y', rfl⟩, rfl, hz⟩ := hI
      rw [Int.toNat_natCast, List.take_length] at hz
      exact .inr ⟨⟨y', rfl⟩, hz⟩
  rcases loop with ⟨i, ⟨y, e⟩, h⟩ | ⟨⟨y, e⟩, h⟩
  · refine ⟨i, ?_, ⟨fun z => absurd z (by omega), fun z => absurd z h⟩⟩
    rw [call_of hT]
    unfold b_law_first
    generalize f_law_first_1 = C1 at *
    simp -implicitDefEqProofs only [varE_ev, cE_ev, argsE_nil, argsE_cons, aK1_ok, aK2_ok, tupE_ev, tupK_ok, lstE_ev, lstK_ok, dctE_ev, newL_t, newL_f, newD_t, newD_f, binE_ev, binK1_ok, binK2_ok, idxE_ev, idxK1_ok, idxK2_ok, cmpE_ev, cmpK1_ok, cmpK2_ok, optV_s, optB_s, testB_ev, testK_ok, truE_ev, truK_ok, truO_s, notT_ev, notK_ok, andT_ev, andK_t, andK_f, orT_ev, orK_t, orK_f, andE_ev, andV1_ok, andV2_t, andV2_f, orE_ev, orV1_ok, orV2_t, orV2_f, notE_ev, notV1_ok, notV2_s, negE_ev, negK_ok, ifE_ev, ifV_t, ifV_f, chainE_ev, chK1_ok, chK2_ok, chK3_t, chK3_f, chK4_ok, partE_ev, partK_ok, noE_ev, sliceE_ev, slK1_ok, slK2_ok, slK3_ok, callE_ev, callK_ok, biE_ev, biK_ok, appE_ev, apK2_ok, getE_ev, geK2_ok, get2E_ev, gfK2_ok, gfK3_ok, geO_ok, asgN_ev, asgK_ok, asgT_ev, asgTK_ok, asgO_s, putE_ev, putK1_ok, putK2_ok, putK3_ok, putK4_ok, retE_ev, retK_ok, retN_ev, exprS_ev, exprK_ok, passS_ev, breakS_ev, contS_ev, ifS_ev, ifK_t, ifK_f, blkS_nil, blkS_cons, blkK_n, blkK_r, blkK_b, blkK_c, finK_r, finK_n, stT_nm, stT_tp, stTs_nil, stTs_cons, stO_s, Ev.add_int, Ev.sub_int, mul_intE, div_int, mod_intE, lt_intE, gt_intE, le_intE, ge_intE, eq_intE, ne_intE, eq_strE, ne_strE, eq_blE, ne_blE, is_nonE, is_blE, isnot_nonE, idx_lst, idx_tup, idx_refI, idx_refS, idx_dctI, idx_dctS, setL_lst, setL_str, ix4_0, ix4_1, ix4_2, ix4_3, fin_f, List.map, List.replicate, List.length_cons, List.length_nil, List.nil_append, List.cons_append, List.getElem?_cons_zero, List.getElem?_cons_succ, List.set_cons_zero, List.set_cons_succ, if_true, if_false, decide_true, decide_false, Bool.not_true, Bool.not_false, ite_true, ite_false, Ev.bi_len, lenO_s, bi_int, bi_intb, bi_abs, bi_min, bi_max, bi_gcd, bi_str, tr_bl, tr_int, Nat.sub_self, Nat.zero_add, Nat.reduceAdd, Nat.reduceSub, atI_0, atI_1, atI_2, atI_3, atI_4, Int.reduceNeg, Ev.pow_int, and_self, Bool.false_eq_true, reduceCtorEq, Option.bind_some, Option.bind_none, id_eq, Int.le_refl, Int.lt_irrefl, Int.reduceEq, Int.reduceNe, Int.reduceLT, Int.reduceLE, Int.reducePow, Int.reduceToNat, Int.reduceAbs, Nat.reducePow, Nat.reduceLT, Nat.reduceLeDiff, Nat.reduceEqDiff, Nat.reduceMul, e]
  · refine ⟨-1, ?_, ⟨fun _ => h, fun _ => by decide⟩⟩
    rw [call_of hT]
    unfold b_law_first
    generalize f_law_first_1 = C1 at *
    simp -implicitDefEqProofs only [varE_ev, cE_ev, argsE_nil, argsE_cons, aK1_ok, aK2_ok, tupE_ev, tupK_ok, lstE_ev, lstK_ok, dctE_ev, newL_t, newL_f, newD_t, newD_f, binE_ev, binK1_ok, binK2_ok, idxE_ev, idxK1_ok, idxK2_ok, cmpE_ev, cmpK1_ok, cmpK2_ok, optV_s, optB_s, testB_ev, testK_ok, truE_ev, truK_ok, truO_s, notT_ev, notK_ok, andT_ev, andK_t, andK_f, orT_ev, orK_t, orK_f, andE_ev, andV1_ok, andV2_t, andV2_f, orE_ev, orV1_ok, orV2_t, orV2_f, notE_ev, notV1_ok, notV2_s, negE_ev, negK_ok, ifE_ev, ifV_t, ifV_f, chainE_ev, chK1_ok, chK2_ok, chK3_t, chK3_f, chK4_ok, partE_ev, partK_ok, noE_ev, sliceE_ev, slK1_ok, slK2_ok, slK3_ok, callE_ev, callK_ok, biE_ev, biK_ok, appE_ev, apK2_ok, getE_ev, geK2_ok, get2E_ev, gfK2_ok, gfK3_ok, geO_ok, asgN_ev, asgK_ok, asgT_ev, asgTK_ok, asgO_s, putE_ev, putK1_ok, putK2_ok, putK3_ok, putK4_ok, retE_ev, retK_ok, retN_ev, exprS_ev, exprK_ok, passS_ev, breakS_ev, contS_ev, ifS_ev, ifK_t, ifK_f, blkS_nil, blkS_cons, blkK_n, blkK_r, blkK_b, blkK_c, finK_r, finK_n, stT_nm, stT_tp, stTs_nil, stTs_cons, stO_s, Ev.add_int, Ev.sub_int, mul_intE, div_int, mod_intE, lt_intE, gt_intE, le_intE, ge_intE, eq_intE, ne_intE, eq_strE, ne_strE, eq_blE, ne_blE, is_nonE, is_blE, isnot_nonE, idx_lst, idx_tup, idx_refI, idx_refS, idx_dctI, idx_dctS, setL_lst, setL_str, ix4_0, ix4_1, ix4_2, ix4_3, fin_f, List.map, List.replicate, List.length_cons, List.length_nil, List.nil_append, List.cons_append, List.getElem?_cons_zero, List.getElem?_cons_succ, List.set_cons_zero, List.set_cons_succ, if_true, if_false, decide_true, decide_false, Bool.not_true, Bool.not_false, ite_true, ite_false, Ev.bi_len, lenO_s, bi_int, bi_intb, bi_abs, bi_min, bi_max, bi_gcd, bi_str, tr_bl, tr_int, Nat.sub_self, Nat.zero_add, Nat.reduceAdd, Nat.reduceSub, atI_0, atI_1, atI_2, atI_3, atI_4, Int.reduceNeg, Ev.pow_int, and_self, Bool.false_eq_true, reduceCtorEq, Option.bind_some, Option.bind_none, id_eq, Int.le_refl, Int.lt_irrefl, Int.reduceEq, Int.reduceNe, Int.reduceLT, Int.reduceLE, Int.reducePow, Int.reduceToNat, Int.reduceAbs, Nat.reducePow, Nat.reduceLT, Nat.reduceLeDiff, Nat.reduceEqDiff, Nat.reduceMul, e]
/-! ### drawn rows: the pool stands at 0 -/
section
variable {p : Pl} {X : List LO} {c : Nat}
theorem draw0 (h1 : Has T "_law_mixed" 5 false b_law_mixed) (h2 : Has T "_law_rest" 4 false b_law_rest) (h3 : Has T "_law_draw" 3 false b_law_draw) (k : Nat) {lim : Int} (hp : PlOk (c + 1) p) (hl : 0 < lim) (X : List LO) (h9 : lg lim < 9000 := by first | decide | exact Nat.lt_of_le_of_lt (lg_lit 200) (by decide)) :
    ∃ (v : Int) (p' : Pl), 0 ≤ v ∧ v < lim ∧ PlOk c p' ∧ evCall T (k + 3) "_law_draw" [.ref 0, .int lim] (p.lo :: X) = .ok (.int v) (p'.lo :: X) := draw_eq h1 h2 h3 k (L := p.lo :: X) (i := 0) rfl hp hl h9
theorem sz_ratio {x y : Int} {n : Nat} (h0 : 0 < y) (hx : lg x ≤ n) (hy : lg y ≤ n) : Sz n ((x : Rat) / (y : Rat)) := sz_div (by omega) hx hy
theorem fraction_eq (h1 : Has T "_law_mixed" 5 false b_law_mixed) (h2 : Has T "_law_rest" 4 false b_law_rest) (h3 : Has T "_law_draw" 3 false b_law_draw) (hG : Has T "_law_gcd" 3 false b_law_gcd) (hR : Has T "_law_ratio" 3 false b_law_ratio) (hT : Has T "_law_fraction" 2 false b_law_fraction) (k : Nat) (hp : PlOk (c + 3) p) (X : List LO) :
    ∃ (q : Rat) (p' : Pl), Sz 21 q ∧ PlOk c p' ∧ evCall T (k + 4) "_law_fraction" [.ref 0] (p.lo :: X) = .ok (fr q) (p'.lo :: X) := by
  obtain ⟨way, p1, w0, w1, hp1, e1⟩ := draw0 h1 h2 h3 k (lim := 9) hp (by decide) X
  by_cases c1 : way < 5
  · obtain ⟨v, p2, v0, v1, hp2, e2⟩ := draw0 h1 h2 h3 k (lim := 7) hp1 (by decide) X
    refine ⟨((v - 3 : Int) : Rat), p2, Sz.int (lg_of (by omega)), hp2.mono (by omega), ?_⟩
    rw [call_of hT]
    simp -implicitDefEqProofs only [varE_ev, cE_ev, argsE_nil, argsE_cons, aK1_ok, aK2_ok, tupE_ev, tupK_ok, lstE_ev, lstK_ok, dctE_ev, newL_t, newL_f, newD_t, newD_f, binE_ev, binK1_ok, binK2_ok, idxE_ev, idxK1_ok, idxK2_ok, cmpE_ev, cmpK1_ok, cmpK2_ok, optV_s, optB_s, testB_ev, testK_ok, truE_ev, truK_ok, truO_s, notT_ev, notK_ok, andT_ev, andK_t, andK_f, orT_ev, orK_t, orK_f, andE_ev, andV1_ok, andV2_t, andV2_f, orE_ev, orV1_ok, orV2_t, orV2_f, notE_ev, notV1_ok, notV2_s, negE_ev, negK_ok, ifE_ev, ifV_t, ifV_f, chainE_ev, chK1_ok, chK2_ok, chK3_t, chK3_f, chK4_ok, partE_ev, partK_ok, noE_ev, sliceE_ev, slK1_ok, slK2_ok, slK3_ok, callE_ev, callK_ok, biE_ev, biK_ok, appE_ev, apK2_ok, getE_ev, geK2_ok, get2E_ev, gfK2_ok, gfK3_ok, geO_ok, asgN_ev, asgK_ok, asgT_ev, asgTK_ok, asgO_s, putE_ev, putK1_ok, putK2_ok, putK3_ok, putK4_ok, retE_ev, retK_ok, retN_ev, exprS_ev, exprK_ok, passS_ev, breakS_ev, contS_ev, ifS_ev, ifK_t, ifK_f, blkS_nil, blkS_cons, blkK_n, blkK_r, blkK_b, blkK_c, finK_r, finK_n, stT_nm, stT_tp, stTs_nil, stTs_cons, stO_s, Ev.add_int, Ev.sub_int, mul_intE, div_int, mod_intE, lt_intE, gt_intE, le_intE, ge_intE, eq_intE, ne_intE, eq_strE, ne_strE, eq_blE, ne_blE, is_nonE, is_blE, isnot_nonE, idx_lst, idx_tup, idx_refI, idx_refS, idx_dctI, idx_dctS, setL_lst, setL_str, ix4_0, ix4_1, ix4_2, ix4_3, fin_f, List.map, List.replicate, List.length_cons, List.length_nil, List.nil_append, List.cons_append, List.getElem?_cons_zero, List.getElem?_cons_succ, List.set_cons_zero, List.set_cons_succ, if_true, if_false, decide_true, decide_false, Bool.not_true, Bool.not_false, ite_true, ite_false, Ev.bi_len, lenO_s, bi_int, bi_intb, bi_abs, bi_min, bi_max, bi_gcd, bi_str, tr_bl, tr_int, Nat.sub_self, Nat.zero_add, Nat.reduceAdd, Nat.reduceSub, atI_0, atI_1, atI_2, atI_3, atI_4, Int.reduceNeg, Ev.pow_int, and_self, Bool.false_eq_true, reduceCtorEq, Option.bind_some, Option.bind_none, id_eq, Int.le_refl, Int.lt_irrefl, Int.reduceEq, Int.reduceNe, Int.reduceLT, Int.reduceLE, Int.reducePow, Int.reduceToNat, Int.reduceAbs, Nat.reducePow, Nat.reduceLT, Nat.reduceLeDiff, Nat.reduceEqDiff, Nat.reduceMul, b_law_fraction, e1, c1, e2, fr_int]
  · by_cases c2 : way < 8
    · obtain ⟨v, p2, v0, v1, hp2, e2⟩ := draw0 h1 h2 h3 k (lim := 13) hp1 (by decide) X
      obtain ⟨u, p3, u0, u1, hp3, e3⟩ := draw0 h1 h2 h3 k (lim := 6) hp2 (by decide) X
      have y : lg (1 + u) ≤ 21 := lg_of (by omega)
      have r := lratio_eq hG hR (k + 1) (p := v - 6) (q := 1 + u) (p3.lo :: X) (by omega) (by omega)
      refine ⟨_, p3, sz_ratio (x := v - 6) (y := 1 + u) (by omega) (lg_of (by omega)) y, hp3, ?_⟩
      rw [call_of hT]
      simp -implicitDefEqProofs only [varE_ev, cE_ev, argsE_nil, argsE_cons, aK1_ok, aK2_ok, tupE_ev, tupK_ok, lstE_ev, lstK_ok, dctE_ev, newL_t, newL_f, newD_t, newD_f, binE_ev, binK1_ok, binK2_ok, idxE_ev, idxK1_ok, idxK2_ok, cmpE_ev, cmpK1_ok, cmpK2_ok, optV_s, optB_s, testB_ev, testK_ok, truE_ev, truK_ok, truO_s, notT_ev, notK_ok, andT_ev, andK_t, andK_f, orT_ev, orK_t, orK_f, andE_ev, andV1_ok, andV2_t, andV2_f, orE_ev, orV1_ok, orV2_t, orV2_f, notE_ev, notV1_ok, notV2_s, negE_ev, negK_ok, ifE_ev, ifV_t, ifV_f, chainE_ev, chK1_ok, chK2_ok, chK3_t, chK3_f, chK4_ok, partE_ev, partK_ok, noE_ev, sliceE_ev, slK1_ok, slK2_ok, slK3_ok, callE_ev, callK_ok, biE_ev, biK_ok, appE_ev, apK2_ok, getE_ev, geK2_ok, get2E_ev, gfK2_ok, gfK3_ok, geO_ok, asgN_ev, asgK_ok, asgT_ev, asgTK_ok, asgO_s, putE_ev, putK1_ok, putK2_ok, putK3_ok, putK4_ok, retE_ev, retK_ok, retN_ev, exprS_ev, exprK_ok, passS_ev, breakS_ev, contS_ev, ifS_ev, ifK_t, ifK_f, blkS_nil, blkS_cons, blkK_n, blkK_r, blkK_b, blkK_c, finK_r, finK_n, stT_nm, stT_tp, stTs_nil, stTs_cons, stO_s, Ev.add_int, Ev.sub_int, mul_intE, div_int, mod_intE, lt_intE, gt_intE, le_intE, ge_intE, eq_intE, ne_intE, eq_strE, ne_strE, eq_blE, ne_blE, is_nonE, is_blE, isnot_nonE, idx_lst, idx_tup, idx_refI, idx_refS, idx_dctI, idx_dctS, setL_lst, setL_str, ix4_0, ix4_1, ix4_2, ix4_3, fin_f, List.map, List.replicate, List.length_cons, List.length_nil, List.nil_append, List.cons_append, List.getElem?_cons_zero, List.getElem?_cons_succ, List.set_cons_zero, List.set_cons_succ, if_true, if_false, decide_true, decide_false, Bool.not_true, Bool.not_false, ite_true, ite_false, Ev.bi_len, lenO_s, bi_int, bi_intb, bi_abs, bi_min, bi_max, bi_gcd, bi_str, tr_bl, tr_int, Nat.sub_self, Nat.zero_add, Nat.reduceAdd, Nat.reduceSub, atI_0, atI_1, atI_2, atI_3, atI_4, Int.reduceNeg, Ev.pow_int, and_self, Bool.false_eq_true, reduceCtorEq, Option.bind_some, Option.bind_none, id_eq, Int.le_refl, Int.lt_irrefl, Int.reduceEq, Int.reduceNe, Int.reduceLT, Int.reduceLE, Int.reducePow, Int.reduceToNat, Int.reduceAbs, Nat.reducePow, Nat.reduceLT, Nat.reduceLeDiff, Nat.reduceEqDiff, Nat.reduceMul, b_law_fraction, e1, c1, c2, e2, e3, r]
    · obtain ⟨v, p2, v0, v1, hp2, e2⟩ := draw0 h1 h2 h3 k (lim := 2000001) hp1 (by decide) X
      obtain ⟨u, p3, u0, u1, hp3, e3⟩ := draw0 h1 h2 h3 k (lim := 1000) hp2 (by decide) X
      have y : lg (1 + u) ≤ 21 := lg_of (by omega)
      have r := lratio_eq hG hR (k + 1) (p := v - 1000000) (q := 1 + u) (p3.lo :: X) (by omega) (by omega)
      refine ⟨_, p3, sz_ratio (x := v - 1000000) (y := 1 + u) (by omega) (lg_of (by omega)) y, hp3, ?_⟩
      rw [call_of hT]
      simp -implicitDefEqProofs only [varE_ev, cE_ev, argsE_nil, argsE_cons, aK1_ok, aK2_ok, tupE_ev, tupK_ok, lstE_ev, lstK_ok, dctE_ev, newL_t, newL_f, newD_t, newD_f, binE_ev, binK1_ok, binK2_ok, idxE_ev, idxK1_ok, idxK2_ok, cmpE_ev, cmpK1_ok, cmpK2_ok, optV_s, optB_s, testB_ev, testK_ok, truE_ev, truK_ok, truO_s, notT_ev, notK_ok, andT_ev, andK_t, andK_f, orT_ev, orK_t, orK_f, andE_ev, andV1_ok, andV2_t, andV2_f, orE_ev, orV1_ok, orV2_t, orV2_f, notE_ev, notV1_ok, notV2_s, negE_ev, negK_ok, ifE_ev, ifV_t, ifV_f, chainE_ev, chK1_ok, chK2_ok, chK3_t, chK3_f, chK4_ok, partE_ev, partK_ok, noE_ev, sliceE_ev, slK1_ok, slK2_ok, slK3_ok, callE_ev, callK_ok, biE_ev, biK_ok, appE_ev, apK2_ok, getE_ev, geK2_ok, get2E_ev, gfK2_ok, gfK3_ok, geO_ok, asgN_ev, asgK_ok, asgT_ev, asgTK_ok, asgO_s, putE_ev, putK1_ok, putK2_ok, putK3_ok, putK4_ok, retE_ev, retK_ok, retN_ev, exprS_ev, exprK_ok, passS_ev, breakS_ev, contS_ev, ifS_ev, ifK_t, ifK_f, blkS_nil, blkS_cons, blkK_n, blkK_r, blkK_b, blkK_c, finK_r, finK_n, stT_nm, stT_tp, stTs_nil, stTs_cons, stO_s, Ev.add_int, Ev.sub_int, mul_intE, div_int, mod_intE, lt_intE, gt_intE, le_intE, ge_intE, eq_intE, ne_intE, eq_strE, ne_strE, eq_blE, ne_blE, is_nonE, is_blE, isnot_nonE, idx_lst, idx_tup, idx_refI, idx_refS, idx_dctI, idx_dctS, setL_lst, setL_str, ix4_0, ix4_1, ix4_2, ix4_3, fin_f, List.map, List.replicate, List.length_cons, List.length_nil, List.nil_append, List.cons_append, List.getElem?_cons_zero, List.getElem?_cons_succ, List.set_cons_zero, List.set_cons_succ, if_true, if_false, decide_true, decide_false, Bool.not_true, Bool.not_false, ite_true, ite_false, Ev.bi_len, lenO_s, bi_int, bi_intb, bi_abs, bi_min, bi_max, bi_gcd, bi_str, tr_bl, tr_int, Nat.sub_self, Nat.zero_add, Nat.reduceAdd, Nat.reduceSub, atI_0, atI_1, atI_2, atI_3, atI_4, Int.reduceNeg, Ev.pow_int, and_self, Bool.false_eq_true, reduceCtorEq, Option.bind_some, Option.bind_none, id_eq, Int.le_refl, Int.lt_irrefl, Int.reduceEq, Int.reduceNe, Int.reduceLT, Int.reduceLE, Int.reducePow, Int.reduceToNat, Int.reduceAbs, Nat.reducePow, Nat.reduceLT, Nat.reduceLeDiff, Nat.reduceEqDiff, Nat.reduceMul, b_law_fraction, e1, c1, c2, e2, e3, r]
theorem row_eq (h1 : Has T "_law_mixed" 5 false b_law_mixed) (h2 : Has T "_law_rest" 4 false b_law_rest) (h3 : Has T "_law_draw" 3 false b_law_draw) (hG : Has T "_law_gcd" 3 false b_law_gcd) (hR : Has T "_law_ratio" 3 false b_law_ratio) (hF : Has T "_law_fraction" 2 false b_law_fraction) (hT : Has T "_law_row" 3 false b_law_row) (k : Nat) {n : Nat} (hp : PlOk (c + 3 * n) p) (hn : n ≤ 1000) (X : List LO) :
    ∃ (fs : List Rat) (p' : Pl), fs.length = n ∧ AllSz 21 fs ∧ PlOk c p' ∧ evCall T (k + 5) "_law_row" [.ref 0, .int n] (p.lo :: X) = .ok (.ref (X.length + 1)) (p'.lo :: (X ++ [.lst (fs.map fr)])) := by
  have e0 : varE 1 (evCall T (k + 4)) [some (.ref 0), some (.int n), none] (p.lo :: X) = .ok (.int n) (p.lo :: X) := by simp -implicitDefEqProofs only [varE_ev, cE_ev, argsE_nil, argsE_cons, aK1_ok, aK2_ok, tupE_ev, tupK_ok, lstE_ev, lstK_ok, dctE_ev, newL_t, newL_f, newD_t, newD_f, binE_ev, binK1_ok, binK2_ok, idxE_ev, idxK1_ok, idxK2_ok, cmpE_ev, cmpK1_ok, cmpK2_ok, optV_s, optB_s, testB_ev, testK_ok, truE_ev, truK_ok, truO_s, notT_ev, notK_ok, andT_ev, andK_t, andK_f, orT_ev, orK_t, orK_f, andE_ev, andV1_ok, andV2_t, andV2_f, orE_ev, orV1_ok, orV2_t, orV2_f, notE_ev, notV1_ok, notV2_s, negE_ev, negK_ok, ifE_ev, ifV_t, ifV_f, chainE_ev, chK1_ok, chK2_ok, chK3_t, chK3_f, chK4_ok, partE_ev, partK_ok, noE_ev, sliceE_ev, slK1_ok, slK2_ok, slK3_ok, callE_ev, callK_ok, biE_ev, biK_ok, appE_ev, apK2_ok, getE_ev, geK2_ok, get2E_ev, gfK2_ok, gfK3_ok, geO_ok, asgN_ev, asgK_ok, asgT_ev, asgTK_ok, asgO_s, putE_ev, putK1_ok, putK2_ok, putK3_ok, putK4_ok, retE_ev, retK_ok, retN_ev, exprS_ev, exprK_ok, passS_ev, breakS_ev, contS_ev, ifS_ev, ifK_t, ifK_f, blkS_nil, blkS_cons, blkK_n, blkK_r, blkK_b, blkK_c, finK_r, finK_n, stT_nm, stT_tp, stTs_nil, stTs_cons, stO_s, Ev.add_int, Ev.sub_int, mul_intE, div_int, mod_intE, lt_intE, gt_intE, le_intE, ge_intE, eq_intE, ne_intE, eq_strE, ne_strE, eq_blE, ne_blE, is_nonE, is_blE, isnot_nonE, idx_lst, idx_tup, idx_refI, idx_refS, idx_dctI, idx_dctS, setL_lst, setL_str, ix4_0, ix4_1, ix4_2, ix4_3, fin_f, List.map, List.replicate, List.length_cons, List.length_nil, List.nil_append, List.cons_append, List.getElem?_cons_zero, List.getElem?_cons_succ, List.set_cons_zero, List.set_cons_succ, if_true, if_false, decide_true, decide_false, Bool.not_true, Bool.not_false, ite_true, ite_false, Ev.bi_len, lenO_s, bi_int, bi_intb, bi_abs, bi_min, bi_max, bi_gcd, bi_str, tr_bl, tr_int, Nat.sub_self, Nat.zero_add, Nat.reduceAdd, Nat.reduceSub, atI_0, atI_1, atI_2, atI_3, atI_4, Int.reduceNeg, Ev.pow_int, and_self, Bool.false_eq_true, reduceCtorEq, Option.bind_some, Option.bind_none, id_eq, Int.le_refl, Int.lt_irrefl, Int.reduceEq, Int.reduceNe, Int.reduceLT, Int.reduceLE, Int.reducePow, Int.reduceToNat, Int.reduceAbs, Nat.reducePow, Nat.reduceLT, Nat.reduceLeDiff, Nat.reduceEqDiff, Nat.reduceMul]
  have h62 : sizeLine < 2 ^ 62 := by decide
  have hsl := small_line hn
  obtain ⟨ys, L', e, ⟨fs, p', rfl, a1, a2, a3, rfl⟩⟩ := lcX_inv (xs := rangeL 0 n) (t := .nm 2) (ft := yesT) (fe := callE "_law_fraction" [varE 0]) (cb := evCall T (k + 4)) (s := [some (.ref 0), some (.int n), none]) (own := [2]) (mu := true) (L := p.lo :: X)
    (fun i ys L' => ∃ (fs : List Rat) (p' : Pl), ys = fs.map fr ∧ fs.length = i ∧ AllSz 21 fs ∧ PlOk (c + 3 * (n - i)) p' ∧ L' = p'.lo :: X) ⟨[], p, rfl, rfl, nofun, hp, rfl⟩ (fun i ys L' x hx hI => by
      obtain ⟨fs, p', rfl, a1, a2, a3, rfl⟩ := hI
      obtain ⟨hi, rfl⟩ := rangeL_get hx
      obtain ⟨q, p2, b1, b2, b3⟩ := fraction_eq h1 h2 h3 hG hR hF k (c := c + 3 * (n - (i + 1))) (a3.mono (by omega)) X
      refine ⟨_, stT_nm, true, p'.lo :: X, rfl, fr q, p2.lo :: X, ?_, fs ++ [q], p2, by rw [List.map_append]; rfl, by rw [List.length_append, a1]; rfl, fun z hz => ?_, b2, rfl⟩
      · simp -implicitDefEqProofs only [varE_ev, cE_ev, argsE_nil, argsE_cons, aK1_ok, aK2_ok, tupE_ev, tupK_ok, lstE_ev, lstK_ok, dctE_ev, newL_t, newL_f, newD_t, newD_f, binE_ev, binK1_ok, binK2_ok, idxE_ev, idxK1_ok, idxK2_ok, cmpE_ev, cmpK1_ok, cmpK2_ok, optV_s, optB_s, testB_ev, testK_ok, truE_ev, truK_ok, truO_s, notT_ev, notK_ok, andT_ev, andK_t, andK_f, orT_ev, orK_t, orK_f, andE_ev, andV1_ok, andV2_t, andV2_f, orE_ev, orV1_ok, orV2_t, orV2_f, notE_ev, notV1_ok, notV2_s, negE_ev, negK_ok, ifE_ev, ifV_t, ifV_f, chainE_ev, chK1_ok, chK2_ok, chK3_t, chK3_f, chK4_ok, partE_ev, partK_ok, noE_ev, sliceE_ev, slK1_ok, slK2_ok, slK3_ok, callE_ev, callK_ok, biE_ev, biK_ok, appE_ev, apK2_ok, getE_ev, geK2_ok, get2E_ev, gfK2_ok, gfK3_ok, geO_ok, asgN_ev, asgK_ok, asgT_ev, asgTK_ok, asgO_s, putE_ev, putK1_ok, putK2_ok, putK3_ok, putK4_ok, retE_ev, retK_ok, retN_ev, exprS_ev, exprK_ok, passS_ev, breakS_ev, contS_ev, ifS_ev, ifK_t, ifK_f, blkS_nil, blkS_cons, blkK_n, blkK_r, blkK_b, blkK_c, finK_r, finK_n, stT_nm, stT_tp, stTs_nil, stTs_cons, stO_s, Ev.add_int, Ev.sub_int, mul_intE, div_int, mod_intE, lt_intE, gt_intE, le_intE, ge_intE, eq_intE, ne_intE, eq_strE, ne_strE, eq_blE, ne_blE, is_nonE, is_blE, isnot_nonE, idx_lst, idx_tup, idx_refI, idx_refS, idx_dctI, idx_dctS, setL_lst, setL_str, ix4_0, ix4_1, ix4_2, ix4_3, fin_f, List.map, List.replicate, List.length_cons, List.length_nil, List.nil_append, List.cons_append, List.getElem?_cons_zero, List.getElem?_cons_succ, List.set_cons_zero, List.set_cons_succ, if_true, if_false, decide_true, decide_false, Bool.not_true, Bool.not_false, ite_true, ite_false, Ev.bi_len, lenO_s, bi_int, bi_intb, bi_abs, bi_min, bi_max, bi_gcd, bi_str, tr_bl, tr_int, Nat.sub_self, Nat.zero_add, Nat.reduceAdd, Nat.reduceSub, atI_0, atI_1, atI_2, atI_3, atI_4, Int.reduceNeg, Ev.pow_int, and_self, Bool.false_eq_true, reduceCtorEq, Option.bind_some, Option.bind_none, id_eq, Int.le_refl, Int.lt_irrefl, Int.reduceEq, Int.reduceNe, Int.reduceLT, Int.reduceLE, Int.reducePow, Int.reduceToNat, Int.reduceAbs, Nat.reducePow, Nat.reduceLT, Nat.reduceLeDiff, Nat.reduceEqDiff, Nat.reduceMul, wipe_2, b3]
      · rcases List.mem_append.mp hz with h | h
        · exact a2 z h
        · have : z = q := by simpa using h
          rw [this]; exact b1) (fun ys L' hI => by
      obtain ⟨fs, p', rfl, a1, _⟩ := hI
      rw [List.length_map, a1, rangeL_length]
      exact hsl)
  rw [rangeL_length] at a1 a3
  refine ⟨fs, p', a1, a2, by simpa using a3, ?_⟩
  have loop : c_law_row_1 (evCall T (k + 4)) [some (.ref 0), some (.int n), none] (p.lo :: X) = .ok (.ref (X.length + 1)) (p'.lo :: (X ++ [.lst (fs.map fr)])) := by
    unfold c_law_row_1
    rw [lcE_rng e0 (by omega) (by omega), Int.toNat_natCast, e]
    rfl
  rw [call_of hT]
  unfold b_law_row
  generalize c_law_row_1 = C1 at *
  simp -implicitDefEqProofs only [varE_ev, cE_ev, argsE_nil, argsE_cons, aK1_ok, aK2_ok, tupE_ev, tupK_ok, lstE_ev, lstK_ok, dctE_ev, newL_t, newL_f, newD_t, newD_f, binE_ev, binK1_ok, binK2_ok, idxE_ev, idxK1_ok, idxK2_ok, cmpE_ev, cmpK1_ok, cmpK2_ok, optV_s, optB_s, testB_ev, testK_ok, truE_ev, truK_ok, truO_s, notT_ev, notK_ok, andT_ev, andK_t, andK_f, orT_ev, orK_t, orK_f, andE_ev, andV1_ok, andV2_t, andV2_f, orE_ev, orV1_ok, orV2_t, orV2_f, notE_ev, notV1_ok, notV2_s, negE_ev, negK_ok, ifE_ev, ifV_t, ifV_f, chainE_ev, chK1_ok, chK2_ok, chK3_t, chK3_f, chK4_ok, partE_ev, partK_ok, noE_ev, sliceE_ev, slK1_ok, slK2_ok, slK3_ok, callE_ev, callK_ok, biE_ev, biK_ok, appE_ev, apK2_ok, getE_ev, geK2_ok, get2E_ev, gfK2_ok, gfK3_ok, geO_ok, asgN_ev, asgK_ok, asgT_ev, asgTK_ok, asgO_s, putE_ev, putK1_ok, putK2_ok, putK3_ok, putK4_ok, retE_ev, retK_ok, retN_ev, exprS_ev, exprK_ok, passS_ev, breakS_ev, contS_ev, ifS_ev, ifK_t, ifK_f, blkS_nil, blkS_cons, blkK_n, blkK_r, blkK_b, blkK_c, finK_r, finK_n, stT_nm, stT_tp, stTs_nil, stTs_cons, stO_s, Ev.add_int, Ev.sub_int, mul_intE, div_int, mod_intE, lt_intE, gt_intE, le_intE, ge_intE, eq_intE, ne_intE, eq_strE, ne_strE, eq_blE, ne_blE, is_nonE, is_blE, isnot_nonE, idx_lst, idx_tup, idx_refI, idx_refS, idx_dctI, idx_dctS, setL_lst, setL_str, ix4_0, ix4_1, ix4_2, ix4_3, fin_f, List.map, List.replicate, List.length_cons, List.length_nil, List.nil_append, List.cons_append, List.getElem?_cons_zero, List.getElem?_cons_succ, List.set_cons_zero, List.set_cons_succ, if_true, if_false, decide_true, decide_false, Bool.not_true, Bool.not_false, ite_true, ite_false, Ev.bi_len, lenO_s, bi_int, bi_intb, bi_abs, bi_min, bi_max, bi_gcd, bi_str, tr_bl, tr_int, Nat.sub_self, Nat.zero_add, Nat.reduceAdd, Nat.reduceSub, atI_0, atI_1, atI_2, atI_3, atI_4, Int.reduceNeg, Ev.pow_int, and_self, Bool.false_eq_true, reduceCtorEq, Option.bind_some, Option.bind_none, id_eq, Int.le_refl, Int.lt_irrefl, Int.reduceEq, Int.reduceNe, Int.reduceLT, Int.reduceLE, Int.reducePow, Int.reduceToNat, Int.reduceAbs, Nat.reducePow, Nat.reduceLT, Nat.reduceLeDiff, Nat.reduceEqDiff, Nat.reduceMul, loop]
end
end
end Ev

set_option maxHeartbeats 4000000
namespace K02
open PySem PySem.Spec PyProof.Rows L2 Ev
/-! shows_solution(rows, right, count, x) : 0 rows, 1 right, 2 count, 3 x, 4 row, 5 number -/
def c_p_shows_solution_1 : LE := lcE (zipS (varE 0) (varE 1)) (.tp [(.nm 4), (.nm 5)]) yesT (cmpE .Eq (callE "dot" [(varE 4), (varE 3)]) (varE 5)) [4, 5] false
def b_p_shows_solution : LSt := (blkS [
  ifS (testB (cmpE .NotEq (biE .len false [(varE 3)]) (varE 2))) (blkS [
    retE (cE (.bl false))]) (blkS []),
  retE (biE .all false [c_p_shows_solution_1])])
/-! shows_no_solution(rows, right, count, factors) : 0 rows, 1 right, 2 count, 3 factors, 4 number -/
def c_p_shows_no_solution_1 : LE := lcE (valS (callE "combined" [(varE 0), (varE 3), (varE 2)])) (.nm 4) yesT (cmpE .Eq (varE 4) (cE (.tup [(.int 0), (.int 1)]))) [4] false
def b_p_shows_no_solution : LSt := (blkS [
  ifS (orT (testB (cmpE .NotEq (biE .len false [(varE 3)]) (biE .len false [(varE 0)]))) (testB (cmpE .NotEq (callE "dot" [(varE 1), (varE 3)]) (cE (.tup [(.int 1), (.int 1)]))))) (blkS [
    retE (cE (.bl false))]) (blkS []),
  retE (biE .all false [c_p_shows_no_solution_1])])
/-! _law_no_solution_made(pool, count, many) : 0 pool, 1 count, 2 many, 3 rows, 4 factors, 5 place, 6 rest, 7 row, 8 zeros, 9 right, 10 k -/
def c_law_no_solution_made_1 : LE := lcE (rngS [(varE 2)]) (.nm 10) yesT (callE "_law_row" [(varE 0), (varE 1)]) [10] true
def c_law_no_solution_made_2 : LE := lcE (rngS [(varE 2)]) (.nm 10) yesT (ifE (testB (cmpE .NotEq (varE 10) (varE 5))) (idxE (varE 4) (varE 10)) (tupE [(cE (.int 0)), (cE (.int 1))])) [10] false
def c_law_no_solution_made_3 : LE := lcE (rngS [(varE 1)]) (.nm 10) yesT (tupE [(cE (.int 0)), (cE (.int 1))]) [10] false
def b_law_no_solution_made : LSt := (blkS [
  asgN 3 c_law_no_solution_made_1,
  asgN 4 (callE "_law_row" [(varE 0), (varE 2)]),
  asgN 5 (callE "_law_draw" [(varE 0), (varE 2)]),
  putE (callE "_law_pick" [(varE 0), (lstE false [(tupE [(cE (.int 1)), (cE (.int 1))]), (tupE [(negE (cE (.int 2))), (cE (.int 1))]), (tupE [(cE (.int 3)), (cE (.int 5))])])]) (varE 4) (varE 5),
  asgN 6 c_law_no_solution_made_2,
  asgN 7 (callE "_law_combined" [(varE 3), (varE 6), (varE 1)]),
  asgN 8 c_law_no_solution_made_3,
  putE (callE "_law_minus" [(varE 8), (varE 7), (callE "_law_div" [(tupE [(cE (.int 1)), (cE (.int 1))]), (idxE (varE 4) (varE 5))])]) (varE 3) (varE 5),
  asgN 9 (callE "_law_row" [(varE 0), (varE 2)]),
  putE (callE "_law_div" [(callE "_law_sub" [(tupE [(cE (.int 1)), (cE (.int 1))]), (callE "_law_dot" [(varE 9), (varE 6)])]), (idxE (varE 4) (varE 5))]) (varE 9) (varE 5),
  retE (tupE [(varE 3), (varE 9), (varE 4)])])
/-! _law_papers(pool, paper) : 0 pool, 1 paper, 2 found, 3 turn, 4 place, 5 change, 6 number -/
def c_law_papers_1 : LE := lcN 1 (.nm 6) yesT (callE "_law_mul" [(tupE [(cE (.int 2)), (cE (.int 1))]), (varE 6)]) [6] false
def c_law_papers_2 : LE := lcN 1 (.nm 6) yesT (tupE [(cE (.int 0)), (cE (.int 1))]) [6] false
def l_law_papers_1 : LSt := (blkS [
  ifS (testB (cmpE .Gt (biE .len false [(varE 1)]) (cE (.int 0)))) (blkS [
    asgN 4 (callE "_law_draw" [(varE 0), (biE .len false [(varE 1)])]),
    asgN 5 (callE "_law_pick" [(varE 0), (lstE false [(tupE [(cE (.int 1)), (cE (.int 1))]), (tupE [(negE (cE (.int 1))), (cE (.int 7))]), (tupE [(cE (.int 1)), (cE (.int 1000000))])])]),
    exprS (appE (varE 2) (binE .Add false (binE .Add false (sliceE false (varE 1) noE (partE (varE 4))) (lstE false [(callE "_law_add" [(idxE (varE 1) (varE 4)), (varE 5)])])) (sliceE false (varE 1) (partE (binE .Add false (varE 4) (cE (.int 1)))) noE)))]) (blkS [])])
def f_law_papers_1 : LSt := forE (rngS [(cE (.int 2))]) (.nm 3) l_law_papers_1
def b_law_papers : LSt := (blkS [
  asgN 2 (lstE true [(biE .list false [(varE 1)]), (binE .Add false (varE 1) (lstE false [(tupE [(cE (.int 0)), (cE (.int 1))])])), (sliceE false (varE 1) noE (partE (negE (cE (.int 1))))), c_law_papers_1]),
  asgN 2 (binE .Add true (varE 2) (lstE false [c_law_papers_2, (callE "_law_row" [(varE 0), (biE .len false [(varE 1)])])])),
  f_law_papers_1,
  retE (varE 2)])
/-! _law_solves(rows, right, count, x) : 0 rows, 1 right, 2 count, 3 x, 4 at -/
def c_law_solves_1 : LE := lcE (rngS [(biE .len false [(varE 0)])]) (.nm 4) yesT (cmpE .Eq (callE "_law_dot" [(idxE (varE 0) (varE 4)), (varE 3)]) (idxE (varE 1) (varE 4))) [4] false
def b_law_solves : LSt := (blkS [
  retE (andE (cmpE .Eq (biE .len false [(varE 3)]) (varE 2)) (biE .all false [c_law_solves_1]))])
/-! _law_shows_none(rows, right, count, factors) : 0 rows, 1 right, 2 count, 3 factors -/
def b_law_shows_none : LSt := (blkS [
  ifS (orT (testB (cmpE .NotEq (biE .len false [(varE 3)]) (biE .len false [(varE 0)]))) (testB (cmpE .NotEq (callE "_law_dot" [(varE 1), (varE 3)]) (tupE [(cE (.int 1)), (cE (.int 1))])))) (blkS [
    retE (cE (.bl false))]) (blkS []),
  retE (cmpE .Lt (callE "_law_first" [(callE "_law_combined" [(varE 0), (varE 3), (varE 2)])]) (cE (.int 0)))])
/-! law(script) : 0 script, 1 pool, 2 count, 3 many, 4 rows, 5 x, 6 right, 7 paper, 8 passed, 9 told, 10 factors, 11 k, 12 row -/
def c_p_law_1 : LE := lcE (rngS [(varE 3)]) (.nm 11) yesT (callE "_law_row" [(varE 1), (varE 2)]) [11] false
def c_p_law_2 : LE := lcN 4 (.nm 12) yesT (callE "_law_dot" [(varE 12), (varE 5)]) [12] false
def c_p_law_3 : LE := lcN 4 (.nm 12) yesT (biE .list false [(varE 12)]) [12] false
def l_p_law_1 : LSt := (blkS [
  asgN 8 (lstE false [c_p_law_3, (biE .list false [(varE 6)]), (biE .list false [(varE 7)])]),
  asgN 9 (callE "shows_solution" [(idxE (varE 8) (cE (.int 0))), (idxE (varE 8) (cE (.int 1))), (varE 2), (idxE (varE 8) (cE (.int 2)))]),
  ifS (orT (notT (truE (callE "_law_same" [(varE 9), (callE "_law_solves" [(varE 4), (varE 6), (varE 2), (varE 7)])]))) (notT (truE (callE "_law_same" [(varE 8), (lstE false [(varE 4), (varE 6), (varE 7)])])))) (blkS [
    retE (cE (.bl false))]) (blkS [])])
def f_p_law_1 : LSt := forE (valS (callE "_law_papers" [(varE 1), (varE 5)])) (.nm 7) l_p_law_1
def c_p_law_4 : LE := lcN 4 (.nm 12) yesT (biE .list false [(varE 12)]) [12] false
def l_p_law_2 : LSt := (blkS [
  asgN 8 (lstE false [c_p_law_4, (biE .list false [(varE 6)]), (biE .list false [(varE 7)])]),
  asgN 9 (callE "shows_no_solution" [(idxE (varE 8) (cE (.int 0))), (idxE (varE 8) (cE (.int 1))), (varE 2), (idxE (varE 8) (cE (.int 2)))]),
  ifS (orT (notT (truE (callE "_law_same" [(varE 9), (callE "_law_shows_none" [(varE 4), (varE 6), (varE 2), (varE 7)])]))) (notT (truE (callE "_law_same" [(varE 8), (lstE false [(varE 4), (varE 6), (varE 7)])])))) (blkS [
    retE (cE (.bl false))]) (blkS [])])
def f_p_law_2 : LSt := forE (valS (callE "_law_papers" [(varE 1), (varE 10)])) (.nm 7) l_p_law_2
def b_p_law : LSt := (blkS [
  asgN 1 (callE "_law_pool" [(varE 0)]),
  asgN 2 (callE "_law_draw" [(varE 1), (cE (.int 5))]),
  asgN 3 (binE .Add false (cE (.int 1)) (callE "_law_draw" [(varE 1), (cE (.int 5))])),
  asgN 4 c_p_law_1,
  asgN 5 (callE "_law_row" [(varE 1), (varE 2)]),
  asgN 6 c_p_law_2,
  exprS (callE "_law_next" [(varE 1)]),
  f_p_law_1,
  exprS (callE "_law_next" [(varE 1)]),
  asgT (.tp [(.nm 4), (.nm 6), (.nm 10)]) (callE "_law_no_solution_made" [(varE 1), (varE 2), (varE 3)]),
  f_p_law_2,
  retE (cE (.bl true))])
def top (i : Nat) : Stmt := PySem.Challenge.pw_dayworth_k02_papers_of_equations_judged.main.body.getD i (.Pass ⟨0, 0, 0, 0⟩)
def d_p_ratio : Df := ⟨"ratio", top 4, ["p", "q"], ["p", "q", "shared"], ⟨3, false, b_p_ratio⟩⟩
def d_p_added : Df := ⟨"added", top 5, ["one", "other"], ["one", "other"], ⟨2, false, b_p_added⟩⟩
def d_p_times : Df := ⟨"times", top 6, ["one", "other"], ["one", "other"], ⟨2, false, b_p_times⟩⟩
def d_p_dot : Df := ⟨"dot", top 7, ["row", "other"], ["row", "other", "found", "one", "two"], ⟨5, false, b_p_dot⟩⟩
def d_p_combined : Df := ⟨"combined", top 9, ["rows", "factors", "count"], ["rows", "factors", "count", "found", "row", "factor", "column", "one", "two"], ⟨9, false, b_p_combined⟩⟩
def d_p_shows_solution : Df := ⟨"shows_solution", top 10, ["rows", "right", "count", "x"], ["rows", "right", "count", "x", "row", "number"], ⟨6, false, b_p_shows_solution⟩⟩
def d_p_shows_no_solution : Df := ⟨"shows_no_solution", top 11, ["rows", "right", "count", "factors"], ["rows", "right", "count", "factors", "number"], ⟨5, false, b_p_shows_no_solution⟩⟩
def d_law_mixed : Df := ⟨"_law_mixed", top 13, ["number", "place"], ["number", "place", "first", "second", "third"], ⟨5, false, b_law_mixed⟩⟩
def d_law_rest : Df := ⟨"_law_rest", top 14, ["script", "place", "fills"], ["script", "place", "fills", "number"], ⟨4, false, b_law_rest⟩⟩
def d_law_pool : Df := ⟨"_law_pool", top 15, ["script"], ["script"], ⟨1, false, b_law_pool⟩⟩
def d_law_next : Df := ⟨"_law_next", top 16, ["pool"], ["pool"], ⟨1, false, b_law_next⟩⟩
def d_law_draw : Df := ⟨"_law_draw", top 17, ["pool", "limit"], ["pool", "limit", "value"], ⟨3, false, b_law_draw⟩⟩
def d_law_pick : Df := ⟨"_law_pick", top 18, ["pool", "options"], ["pool", "options"], ⟨2, false, b_law_pick⟩⟩
def d_law_same : Df := ⟨"_law_same", top 19, ["answer", "due"], ["answer", "due", "key", "k"], ⟨4, false, b_law_sameB⟩⟩
def d_law_gcd : Df := ⟨"_law_gcd", top 20, ["one", "other"], ["one", "other", "k"], ⟨3, false, b_law_gcd⟩⟩
def d_law_ratio : Df := ⟨"_law_ratio", top 21, ["p", "q"], ["p", "q", "shared"], ⟨3, false, b_law_ratio⟩⟩
def d_law_add : Df := ⟨"_law_add", top 22, ["one", "other"], ["one", "other"], ⟨2, false, b_law_add⟩⟩
def d_law_sub : Df := ⟨"_law_sub", top 23, ["one", "other"], ["one", "other"], ⟨2, false, b_law_sub⟩⟩
def d_law_mul : Df := ⟨"_law_mul", top 24, ["one", "other"], ["one", "other"], ⟨2, false, b_law_mul⟩⟩
def d_law_div : Df := ⟨"_law_div", top 25, ["one", "other"], ["one", "other"], ⟨2, false, b_law_div⟩⟩
def d_law_dot : Df := ⟨"_law_dot", top 26, ["row", "other"], ["row", "other", "found", "k"], ⟨4, false, b_law_dot⟩⟩
def d_law_fraction : Df := ⟨"_law_fraction", top 27, ["pool"], ["pool", "way"], ⟨2, false, b_law_fraction⟩⟩
def d_law_row : Df := ⟨"_law_row", top 28, ["pool", "count"], ["pool", "count", "k"], ⟨3, false, b_law_row⟩⟩
def d_law_minus : Df := ⟨"_law_minus", top 29, ["row", "other", "factor"], ["row", "other", "factor", "k"], ⟨4, false, b_law_minus⟩⟩
def d_law_first : Df := ⟨"_law_first", top 30, ["row"], ["row", "k"], ⟨2, false, b_law_first⟩⟩
def d_law_combined : Df := ⟨"_law_combined", top 31, ["rows", "factors", "count"], ["rows", "factors", "count", "found", "at", "k"], ⟨6, false, b_law_combined⟩⟩
def d_law_no_solution_made : Df := ⟨"_law_no_solution_made", top 32, ["pool", "count", "many"], ["pool", "count", "many", "rows", "factors", "place", "rest", "row", "zeros", "right", "k"], ⟨11, false, b_law_no_solution_made⟩⟩
def d_law_papers : Df := ⟨"_law_papers", top 33, ["pool", "paper"], ["pool", "paper", "found", "turn", "place", "change", "number"], ⟨7, false, b_law_papers⟩⟩
def d_law_solves : Df := ⟨"_law_solves", top 34, ["rows", "right", "count", "x"], ["rows", "right", "count", "x", "at"], ⟨5, false, b_law_solves⟩⟩
def d_law_shows_none : Df := ⟨"_law_shows_none", top 35, ["rows", "right", "count", "factors"], ["rows", "right", "count", "factors"], ⟨4, false, b_law_shows_none⟩⟩
def d_p_law : Df := ⟨"law", top 36, ["script"], ["script", "pool", "count", "many", "rows", "x", "right", "paper", "passed", "told", "factors", "k", "row"], ⟨13, false, b_p_law⟩⟩
def ds : List Df := [d_p_ratio, d_p_added, d_p_times, d_p_dot, d_p_combined, d_p_shows_solution, d_p_shows_no_solution, d_law_mixed, d_law_rest, d_law_pool, d_law_next, d_law_draw, d_law_pick, d_law_same, d_law_gcd, d_law_ratio, d_law_add, d_law_sub, d_law_mul, d_law_div, d_law_dot, d_law_fraction, d_law_row, d_law_minus, d_law_first, d_law_combined, d_law_no_solution_made, d_law_papers, d_law_solves, d_law_shows_none, d_p_law]
def mt (q : Pos) : Bool := match q with
  | ⟨51, 11, 51, 50⟩ => true
  | ⟨122, 11, 122, 54⟩ => true
  | ⟨136, 11, 136, 55⟩ => true
  | ⟨137, 14, 137, 34⟩ => true
  | ⟨144, 12, 144, 32⟩ => true
  | ⟨148, 12, 148, 103⟩ => true
  | ⟨149, 12, 149, 78⟩ => true
  | _ => false
def P : Pr := { consts := [("ZERO", (.tup [(.int 0), (.int 1)])), ("ONE", (.tup [(.int 1), (.int 1)]))], funs := funsOf ds, blts := ["abs", "all", "bool", "dict", "int", "isinstance", "len", "list", "range", "str", "tuple", "zip"], imps := ["gcd"], mt := mt, wf := 0 }
theorem s_p_ratio : DfS P d_p_ratio := ⟨⟨40, by unfold dfC; kernel_rfl⟩, ⟨rfl, rfl, rfl, by decide +kernel, rfl, by decide +kernel, by decide +kernel⟩, rfl, fun _ _ _ _ _ _ us hl => match us, hl with | [_, _], _ => rfl⟩
theorem s_p_added : DfS P d_p_added := ⟨⟨40, by unfold dfC; kernel_rfl⟩, ⟨rfl, rfl, rfl, by decide +kernel, rfl, by decide +kernel, by decide +kernel⟩, rfl, fun _ _ _ _ _ _ us hl => match us, hl with | [_, _], _ => rfl⟩
theorem s_p_times : DfS P d_p_times := ⟨⟨40, by unfold dfC; kernel_rfl⟩, ⟨rfl, rfl, rfl, by decide +kernel, rfl, by decide +kernel, by decide +kernel⟩, rfl, fun _ _ _ _ _ _ us hl => match us, hl with | [_, _], _ => rfl⟩
theorem s_p_dot : DfS P d_p_dot := ⟨⟨40, by unfold dfC; kernel_rfl⟩, ⟨rfl, rfl, rfl, by decide +kernel, rfl, by decide +kernel, by decide +kernel⟩, rfl, fun _ _ _ _ _ _ us hl => match us, hl with | [_, _], _ => rfl⟩
theorem s_p_combined : DfS P d_p_combined := ⟨⟨40, by unfold dfC; kernel_rfl⟩, ⟨rfl, rfl, rfl, by decide +kernel, rfl, by decide +kernel, by decide +kernel⟩, rfl, fun _ _ _ _ _ _ us hl => match us, hl with | [_, _, _], _ => rfl⟩
theorem s_p_shows_solution : DfS P d_p_shows_solution := ⟨⟨40, by unfold dfC; kernel_rfl⟩, ⟨rfl, rfl, rfl, by decide +kernel, rfl, by decide +kernel, by decide +kernel⟩, rfl, fun _ _ _ _ _ _ us hl => match us, hl with | [_, _, _, _], _ => rfl⟩
theorem s_p_shows_no_solution : DfS P d_p_shows_no_solution := ⟨⟨40, by unfold dfC; kernel_rfl⟩, ⟨rfl, rfl, rfl, by decide +kernel, rfl, by decide +kernel, by decide +kernel⟩, rfl, fun _ _ _ _ _ _ us hl => match us, hl with | [_, _, _, _], _ => rfl⟩
theorem s_law_mixed : DfS P d_law_mixed := ⟨⟨40, by unfold dfC; kernel_rfl⟩, ⟨rfl, rfl, rfl, by decide +kernel, rfl, by decide +kernel, by decide +kernel⟩, rfl, fun _ _ _ _ _ _ us hl => match us, hl with | [_, _], _ => rfl⟩
theorem s_law_rest : DfS P d_law_rest := ⟨⟨40, by unfold dfC; kernel_rfl⟩, ⟨rfl, rfl, rfl, by decide +kernel, rfl, by decide +kernel, by decide +kernel⟩, rfl, fun _ _ _ _ _ _ us hl => match us, hl with | [_, _, _], _ => rfl⟩
theorem s_law_pool : DfS P d_law_pool := ⟨⟨40, by unfold dfC; kernel_rfl⟩, ⟨rfl, rfl, rfl, by decide +kernel, rfl, by decide +kernel, by decide +kernel⟩, rfl, fun _ _ _ _ _ _ us hl => match us, hl with | [_], _ => rfl⟩
theorem s_law_next : DfS P d_law_next := ⟨⟨40, by unfold dfC; kernel_rfl⟩, ⟨rfl, rfl, rfl, by decide +kernel, rfl, by decide +kernel, by decide +kernel⟩, rfl, fun _ _ _ _ _ _ us hl => match us, hl with | [_], _ => rfl⟩
theorem s_law_draw : DfS P d_law_draw := ⟨⟨40, by unfold dfC; kernel_rfl⟩, ⟨rfl, rfl, rfl, by decide +kernel, rfl, by decide +kernel, by decide +kernel⟩, rfl, fun _ _ _ _ _ _ us hl => match us, hl with | [_, _], _ => rfl⟩
theorem s_law_pick : DfS P d_law_pick := ⟨⟨40, by unfold dfC; kernel_rfl⟩, ⟨rfl, rfl, rfl, by decide +kernel, rfl, by decide +kernel, by decide +kernel⟩, rfl, fun _ _ _ _ _ _ us hl => match us, hl with | [_, _], _ => rfl⟩
theorem s_law_same : DfS P d_law_same := ⟨⟨40, by unfold dfC; kernel_rfl⟩, ⟨rfl, rfl, rfl, by decide +kernel, rfl, by decide +kernel, by decide +kernel⟩, rfl, fun _ _ _ _ _ _ us hl => match us, hl with | [_, _], _ => rfl⟩
theorem s_law_gcd : DfS P d_law_gcd := ⟨⟨40, by unfold dfC; kernel_rfl⟩, ⟨rfl, rfl, rfl, by decide +kernel, rfl, by decide +kernel, by decide +kernel⟩, rfl, fun _ _ _ _ _ _ us hl => match us, hl with | [_, _], _ => rfl⟩
theorem s_law_ratio : DfS P d_law_ratio := ⟨⟨40, by unfold dfC; kernel_rfl⟩, ⟨rfl, rfl, rfl, by decide +kernel, rfl, by decide +kernel, by decide +kernel⟩, rfl, fun _ _ _ _ _ _ us hl => match us, hl with | [_, _], _ => rfl⟩
theorem s_law_add : DfS P d_law_add := ⟨⟨40, by unfold dfC; kernel_rfl⟩, ⟨rfl, rfl, rfl, by decide +kernel, rfl, by decide +kernel, by decide +kernel⟩, rfl, fun _ _ _ _ _ _ us hl => match us, hl with | [_, _], _ => rfl⟩
theorem s_law_sub : DfS P d_law_sub := ⟨⟨40, by unfold dfC; kernel_rfl⟩, ⟨rfl, rfl, rfl, by decide +kernel, rfl, by decide +kernel, by decide +kernel⟩, rfl, fun _ _ _ _ _ _ us hl => match us, hl with | [_, _], _ => rfl⟩
theorem s_law_mul : DfS P d_law_mul := ⟨⟨40, by unfold dfC; kernel_rfl⟩, ⟨rfl, rfl, rfl, by decide +kernel, rfl, by decide +kernel, by decide +kernel⟩, rfl, fun _ _ _ _ _ _ us hl => match us, hl with | [_, _], _ => rfl⟩
theorem s_law_div : DfS P d_law_div := ⟨⟨40, by unfold dfC; kernel_rfl⟩, ⟨rfl, rfl, rfl, by decide +kernel, rfl, by decide +kernel, by decide +kernel⟩, rfl, fun _ _ _ _ _ _ us hl => match us, hl with | [_, _], _ => rfl⟩
theorem s_law_dot : DfS P d_law_dot := ⟨⟨40, by unfold dfC; kernel_rfl⟩, ⟨rfl, rfl, rfl, by decide +kernel, rfl, by decide +kernel, by decide +kernel⟩, rfl, fun _ _ _ _ _ _ us hl => match us, hl with | [_, _], _ => rfl⟩
theorem s_law_fraction : DfS P d_law_fraction := ⟨⟨40, by unfold dfC; kernel_rfl⟩, ⟨rfl, rfl, rfl, by decide +kernel, rfl, by decide +kernel, by decide +kernel⟩, rfl, fun _ _ _ _ _ _ us hl => match us, hl with | [_], _ => rfl⟩
theorem s_law_row : DfS P d_law_row := ⟨⟨40, by unfold dfC; kernel_rfl⟩, ⟨rfl, rfl, rfl, by decide +kernel, rfl, by decide +kernel, by decide +kernel⟩, rfl, fun _ _ _ _ _ _ us hl => match us, hl with | [_, _], _ => rfl⟩
theorem s_law_minus : DfS P d_law_minus := ⟨⟨40, by unfold dfC; kernel_rfl⟩, ⟨rfl, rfl, rfl, by decide +kernel, rfl, by decide +kernel, by decide +kernel⟩, rfl, fun _ _ _ _ _ _ us hl => match us, hl with | [_, _, _], _ => rfl⟩
theorem s_law_first : DfS P d_law_first := ⟨⟨40, by unfold dfC; kernel_rfl⟩, ⟨rfl, rfl, rfl, by decide +kernel, rfl, by decide +kernel, by decide +kernel⟩, rfl, fun _ _ _ _ _ _ us hl => match us, hl with | [_], _ => rfl⟩
theorem s_law_combined : DfS P d_law_combined := ⟨⟨40, by unfold dfC; kernel_rfl⟩, ⟨rfl, rfl, rfl, by decide +kernel, rfl, by decide +kernel, by decide +kernel⟩, rfl, fun _ _ _ _ _ _ us hl => match us, hl with | [_, _, _], _ => rfl⟩
theorem s_law_no_solution_made : DfS P d_law_no_solution_made := ⟨⟨40, by unfold dfC; kernel_rfl⟩, ⟨rfl, rfl, rfl, by decide +kernel, rfl, by decide +kernel, by decide +kernel⟩, rfl, fun _ _ _ _ _ _ us hl => match us, hl with | [_, _, _], _ => rfl⟩
theorem s_law_papers : DfS P d_law_papers := ⟨⟨40, by unfold dfC; kernel_rfl⟩, ⟨rfl, rfl, rfl, by decide +kernel, rfl, by decide +kernel, by decide +kernel⟩, rfl, fun _ _ _ _ _ _ us hl => match us, hl with | [_, _], _ => rfl⟩
theorem s_law_solves : DfS P d_law_solves := ⟨⟨40, by unfold dfC; kernel_rfl⟩, ⟨rfl, rfl, rfl, by decide +kernel, rfl, by decide +kernel, by decide +kernel⟩, rfl, fun _ _ _ _ _ _ us hl => match us, hl with | [_, _, _, _], _ => rfl⟩
theorem s_law_shows_none : DfS P d_law_shows_none := ⟨⟨40, by unfold dfC; kernel_rfl⟩, ⟨rfl, rfl, rfl, by decide +kernel, rfl, by decide +kernel, by decide +kernel⟩, rfl, fun _ _ _ _ _ _ us hl => match us, hl with | [_, _, _, _], _ => rfl⟩
theorem s_p_law : DfS P d_p_law := ⟨⟨40, by unfold dfC; kernel_rfl⟩, ⟨rfl, rfl, rfl, by decide +kernel, rfl, by decide +kernel, by decide +kernel⟩, rfl, fun _ _ _ _ _ _ us hl => match us, hl with | [_], _ => rfl⟩
theorem h_p_ratio : Has (tabOf ds) "ratio" 3 false b_p_ratio := by unfold Has; kernel_rfl
theorem h_p_added : Has (tabOf ds) "added" 2 false b_p_added := by unfold Has; kernel_rfl
theorem h_p_times : Has (tabOf ds) "times" 2 false b_p_times := by unfold Has; kernel_rfl
theorem h_p_dot : Has (tabOf ds) "dot" 5 false b_p_dot := by unfold Has; kernel_rfl
theorem h_p_combined : Has (tabOf ds) "combined" 9 false b_p_combined := by unfold Has; kernel_rfl
theorem h_p_shows_solution : Has (tabOf ds) "shows_solution" 6 false b_p_shows_solution := by unfold Has; kernel_rfl
theorem h_p_shows_no_solution : Has (tabOf ds) "shows_no_solution" 5 false b_p_shows_no_solution := by unfold Has; kernel_rfl
theorem h_law_mixed : Has (tabOf ds) "_law_mixed" 5 false b_law_mixed := by unfold Has; kernel_rfl
theorem h_law_rest : Has (tabOf ds) "_law_rest" 4 false b_law_rest := by unfold Has; kernel_rfl
theorem h_law_pool : Has (tabOf ds) "_law_pool" 1 false b_law_pool := by unfold Has; kernel_rfl
theorem h_law_next : Has (tabOf ds) "_law_next" 1 false b_law_next := by unfold Has; kernel_rfl
theorem h_law_draw : Has (tabOf ds) "_law_draw" 3 false b_law_draw := by unfold Has; kernel_rfl
theorem h_law_pick : Has (tabOf ds) "_law_pick" 2 false b_law_pick := by unfold Has; kernel_rfl
theorem h_law_same : Has (tabOf ds) "_law_same" 4 false b_law_sameB := by unfold Has; kernel_rfl
theorem h_law_gcd : Has (tabOf ds) "_law_gcd" 3 false b_law_gcd := by unfold Has; kernel_rfl
theorem h_law_ratio : Has (tabOf ds) "_law_ratio" 3 false b_law_ratio := by unfold Has; kernel_rfl
theorem h_law_add : Has (tabOf ds) "_law_add" 2 false b_law_add := by unfold Has; kernel_rfl
theorem h_law_sub : Has (tabOf ds) "_law_sub" 2 false b_law_sub := by unfold Has; kernel_rfl
theorem h_law_mul : Has (tabOf ds) "_law_mul" 2 false b_law_mul := by unfold Has; kernel_rfl
theorem h_law_div : Has (tabOf ds) "_law_div" 2 false b_law_div := by unfold Has; kernel_rfl
theorem h_law_dot : Has (tabOf ds) "_law_dot" 4 false b_law_dot := by unfold Has; kernel_rfl
theorem h_law_fraction : Has (tabOf ds) "_law_fraction" 2 false b_law_fraction := by unfold Has; kernel_rfl
theorem h_law_row : Has (tabOf ds) "_law_row" 3 false b_law_row := by unfold Has; kernel_rfl
theorem h_law_minus : Has (tabOf ds) "_law_minus" 4 false b_law_minus := by unfold Has; kernel_rfl
theorem h_law_first : Has (tabOf ds) "_law_first" 2 false b_law_first := by unfold Has; kernel_rfl
theorem h_law_combined : Has (tabOf ds) "_law_combined" 6 false b_law_combined := by unfold Has; kernel_rfl
theorem h_law_no_solution_made : Has (tabOf ds) "_law_no_solution_made" 11 false b_law_no_solution_made := by unfold Has; kernel_rfl
theorem h_law_papers : Has (tabOf ds) "_law_papers" 7 false b_law_papers := by unfold Has; kernel_rfl
theorem h_law_solves : Has (tabOf ds) "_law_solves" 5 false b_law_solves := by unfold Has; kernel_rfl
theorem h_law_shows_none : Has (tabOf ds) "_law_shows_none" 4 false b_law_shows_none := by unfold Has; kernel_rfl
theorem h_p_law : Has (tabOf ds) "law" 13 false b_p_law := by unfold Has; kernel_rfl
theorem s_all : ∀ d ∈ ds, DfS P d := by
  intro d h
  simp only [ds, List.mem_cons, List.mem_nil_iff, or_false] at h
  rcases h with rfl | rfl | rfl | rfl | rfl | rfl | rfl | rfl | rfl | rfl | rfl | rfl | rfl | rfl | rfl | rfl | rfl | rfl | rfl | rfl | rfl | rfl | rfl | rfl | rfl | rfl | rfl | rfl | rfl | rfl | rfl
  · exact s_p_ratio
  · exact s_p_added
  · exact s_p_times
  · exact s_p_dot
  · exact s_p_combined
  · exact s_p_shows_solution
  · exact s_p_shows_no_solution
  · exact s_law_mixed
  · exact s_law_rest
  · exact s_law_pool
  · exact s_law_next
  · exact s_law_draw
  · exact s_law_pick
  · exact s_law_same
  · exact s_law_gcd
  · exact s_law_ratio
  · exact s_law_add
  · exact s_law_sub
  · exact s_law_mul
  · exact s_law_div
  · exact s_law_dot
  · exact s_law_fraction
  · exact s_law_row
  · exact s_law_minus
  · exact s_law_first
  · exact s_law_combined
  · exact s_law_no_solution_made
  · exact s_law_papers
  · exact s_law_solves
  · exact s_law_shows_none
  · exact s_p_law
abbrev R : PySem.W.OpenRow := PySem.W.OpenLaw.row PySem.Challenge.rw_dayworth_k02_papers_of_equations_judged
def loose0 : List PySem.Str := ["gcd", "ZERO", "ONE", "ratio", "added", "times", "dot", "combined", "shows_solution", "shows_no_solution", "_law_mixed", "_law_rest", "_law_pool", "_law_next", "_law_draw", "_law_pick", "_law_same", "_law_gcd", "_law_ratio", "_law_add"]
def loose1 : List PySem.Str := ["_law_sub", "_law_mul", "_law_div", "_law_dot", "_law_fraction", "_law_row", "_law_minus", "_law_first", "_law_combined", "_law_no_solution_made", "_law_papers", "_law_solves", "_law_shows_none"]
def loose : List PySem.Str := loose0 ++ loose1
def qv : Program := PySem.W.view R.prog [0, 36]
theorem run (w : World) : HandSHeadRun.RunEqI R qv (hookM 4 P ds) (obM 4 P ds) 3000 loose w := by
  unfold HandSHeadRun.RunEqI; kernel_rfl
end K02

set_option maxHeartbeats 4000000
namespace K02
open PySem Ev
open L2 (atI cutS)
section
variable {k : Nat} {L : List LO} {m n c : Nat} {v w z : LV} {rs : List (List Rat)} {right x fs : List Rat}
/-- row for row: its product with x is the right side -/
def okB (rs : List (List Rat)) (right x : List Rat) : List Bool := (rs.zip right).map fun p => decide (dq p.1 x = p.2)
theorem okB_at {i : Nat} {r : List Rat} {q : Rat} (hr : rs[i]? = some r) (hq : right[i]? = some q) : (okB rs right x)[i]? = some (decide (dq r x = q)) := by
  unfold okB
  rw [List.getElem?_map, zip_at hr hq]; rfl
theorem okB_len (h : right.length = rs.length) : (okB rs right x).length = rs.length := by
  unfold okB; rw [List.length_map, List.length_zip]; omega
theorem bl_at {bs : List Bool} {i : Nat} {y : LV} {b : Bool} (h : (bs.map LV.bl)[i]? = some y) (hb : bs[i]? = some b) : y = .bl b := by
  rw [List.getElem?_map, hb] at h
  exact (Option.some.inj h).symm
theorem solution_eq (hv : Mat L v rs) (hw : Row L w right) (hz : Row L z x) (hl : right.length = rs.length) (hr : Rows m c rs) (hx : AllSz n x) (hs : rs.length ≤ 1000) (h9 : c * (m + n + 3) + (m + n + 3) < 8990) :
    evCall (tabOf ds) (k + 4) "shows_solution" [v, w, .int c, z] L = .ok (.bl (decide (x.length = c) && (okB rs right x).all id)) L := by
  rw [call_of h_p_shows_solution]
  unfold b_p_shows_solution
  by_cases hc : x.length = c
  · obtain ⟨⟨vs, v1, v2, v3⟩, _⟩ := id hv
    have loop : c_p_shows_solution_1 (evCall (tabOf ds) (k + 3)) [some v, some w, some (.int c), some z, none, none] L = .ok (.lst ((okB rs right x).map .bl)) L := by
      unfold c_p_shows_solution_1
      rw [lc_zip (v := v) (w := w) (xs := vs) (ys := right.map fr) (zs := (okB rs right x).map .bl) rfl rfl (items_seq v1) (items_seq hw.1) (by rw [List.length_map]; omega) (by rw [List.length_map, okB_len hl]; omega) (small_line (by omega))]
      · rfl
      · intro i a b y ha hb hy
        obtain ⟨q, hq, rfl⟩ := row_get hb
        have hi : i < rs.length := by have := (List.getElem?_eq_some_iff.mp ha).1; omega
        have hp : rs[i]? = some rs[i] := List.getElem?_eq_getElem hi
        have hrm : rs[i] ∈ rs := List.getElem_mem _
        generalize rs[i] = r at *
        have rl := hr.len r hrm
        have e := dot_eq (k := k) h_p_ratio h_p_added h_p_times h_p_dot (v3 i a r ha hp) hz (by omega) (hr.sz r hrm) hx (by rw [rl]; exact h9)
        have := bl_at hy (okB_at hp hq)
        subst this
        exact ⟨[some v, some w, some (.int c), some z, some a, some (fr q)], rfl, rfl, by simp -implicitDefEqProofs only [varE_ev, cE_ev, argsE_nil, argsE_cons, aK1_ok, aK2_ok, tupE_ev, tupK_ok, lstE_ev, lstK_ok, dctE_ev, newL_t, newL_f, newD_t, newD_f, binE_ev, binK1_ok, binK2_ok, idxE_ev, idxK1_ok, idxK2_ok, cmpE_ev, cmpK1_ok, cmpK2_ok, optV_s, optB_s, testB_ev, testK_ok, truE_ev, truK_ok, truO_s, notT_ev, notK_ok, andT_ev, andK_t, andK_f, orT_ev, orK_t, orK_f, andE_ev, andV1_ok, andV2_t, andV2_f, orE_ev, orV1_ok, orV2_t, orV2_f, notE_ev, notV1_ok, notV2_s, negE_ev, negK_ok, ifE_ev, ifV_t, ifV_f, chainE_ev, chK1_ok, chK2_ok, chK3_t, chK3_f, chK4_ok, partE_ev, partK_ok, noE_ev, sliceE_ev, slK1_ok, slK2_ok, slK3_ok, callE_ev, callK_ok, biE_ev, biK_ok, appE_ev, apK2_ok, getE_ev, geK2_ok, get2E_ev, gfK2_ok, gfK3_ok, geO_ok, asgN_ev, asgK_ok, asgT_ev, asgTK_ok, asgO_s, putE_ev, putK1_ok, putK2_ok, putK3_ok, putK4_ok, retE_ev, retK_ok, retN_ev, exprS_ev, exprK_ok, passS_ev, breakS_ev, contS_ev, ifS_ev, ifK_t, ifK_f, blkS_nil, blkS_cons, blkK_n, blkK_r, blkK_b, blkK_c, finK_r, finK_n, stT_nm, stT_tp, stTs_nil, stTs_cons, stO_s, Ev.add_int, Ev.sub_int, mul_intE, div_int, mod_intE, lt_intE, gt_intE, le_intE, ge_intE, eq_intE, ne_intE, eq_strE, ne_strE, eq_blE, ne_blE, is_nonE, is_blE, isnot_nonE, idx_lst, idx_tup, idx_refI, idx_refS, idx_dctI, idx_dctS, setL_lst, setL_str, ix4_0, ix4_1, ix4_2, ix4_3, fin_f, List.map, List.replicate, List.length_cons, List.length_nil, List.nil_append, List.cons_append, List.getElem?_cons_zero, List.getElem?_cons_succ, List.set_cons_zero, List.set_cons_succ, if_true, if_false, decide_true, decide_false, Bool.not_true, Bool.not_false, ite_true, ite_false, Ev.bi_len, lenO_s, bi_int, bi_intb, bi_abs, bi_min, bi_max, bi_gcd, bi_str, tr_bl, tr_int, Nat.sub_self, Nat.zero_add, Nat.reduceAdd, Nat.reduceSub, atI_0, atI_1, atI_2, atI_3, atI_4, Int.reduceNeg, Ev.pow_int, and_self, Bool.false_eq_true, reduceCtorEq, Option.bind_some, Option.bind_none, id_eq, Int.le_refl, Int.lt_irrefl, Int.reduceEq, Int.reduceNe, Int.reduceLT, Int.reduceLE, Int.reducePow, Int.reduceToNat, Int.reduceAbs, Nat.reducePow, Nat.reduceLT, Nat.reduceLeDiff, Nat.reduceEqDiff, Nat.reduceMul, e, eq_fr]⟩
    generalize c_p_shows_solution_1 = C1 at *
    simp -implicitDefEqProofs only [varE_ev, cE_ev, argsE_nil, argsE_cons, aK1_ok, aK2_ok, tupE_ev, tupK_ok, lstE_ev, lstK_ok, dctE_ev, newL_t, newL_f, newD_t, newD_f, binE_ev, binK1_ok, binK2_ok, idxE_ev, idxK1_ok, idxK2_ok, cmpE_ev, cmpK1_ok, cmpK2_ok, optV_s, optB_s, testB_ev, testK_ok, truE_ev, truK_ok, truO_s, notT_ev, notK_ok, andT_ev, andK_t, andK_f, orT_ev, orK_t, orK_f, andE_ev, andV1_ok, andV2_t, andV2_f, orE_ev, orV1_ok, orV2_t, orV2_f, notE_ev, notV1_ok, notV2_s, negE_ev, negK_ok, ifE_ev, ifV_t, ifV_f, chainE_ev, chK1_ok, chK2_ok, chK3_t, chK3_f, chK4_ok, partE_ev, partK_ok, noE_ev, sliceE_ev, slK1_ok, slK2_ok, slK3_ok, callE_ev, callK_ok, biE_ev, biK_ok, appE_ev, apK2_ok, getE_ev, geK2_ok, get2E_ev, gfK2_ok, gfK3_ok, geO_ok, asgN_ev, asgK_ok, asgT_ev, asgTK_ok, asgO_s, putE_ev, putK1_ok, putK2_ok, putK3_ok, putK4_ok, retE_ev, retK_ok, retN_ev, exprS_ev, exprK_ok, passS_ev, breakS_ev, contS_ev, ifS_ev, ifK_t, ifK_f, blkS_nil, blkS_cons, blkK_n, blkK_r, blkK_b, blkK_c, finK_r, finK_n, stT_nm, stT_tp, stTs_nil, stTs_cons, stO_s, Ev.add_int, Ev.sub_int, mul_intE, div_int, mod_intE, lt_intE, gt_intE, le_intE, ge_intE, eq_intE, ne_intE, eq_strE, ne_strE, eq_blE, ne_blE, is_nonE, is_blE, isnot_nonE, idx_lst, idx_tup, idx_refI, idx_refS, idx_dctI, idx_dctS, setL_lst, setL_str, ix4_0, ix4_1, ix4_2, ix4_3, fin_f, List.map, List.replicate, List.length_cons, List.length_nil, List.nil_append, List.cons_append, List.getElem?_cons_zero, List.getElem?_cons_succ, List.set_cons_zero, List.set_cons_succ, if_true, if_false, decide_true, decide_false, Bool.not_true, Bool.not_false, ite_true, ite_false, Ev.bi_len, lenO_s, bi_int, bi_intb, bi_abs, bi_min, bi_max, bi_gcd, bi_str, tr_bl, tr_int, Nat.sub_self, Nat.zero_add, Nat.reduceAdd, Nat.reduceSub, atI_0, atI_1, atI_2, atI_3, atI_4, Int.reduceNeg, Ev.pow_int, and_self, Bool.false_eq_true, reduceCtorEq, Option.bind_some, Option.bind_none, id_eq, Int.le_refl, Int.lt_irrefl, Int.reduceEq, Int.reduceNe, Int.reduceLT, Int.reduceLE, Int.reducePow, Int.reduceToNat, Int.reduceAbs, Nat.reducePow, Nat.reduceLT, Nat.reduceLeDiff, Nat.reduceEqDiff, Nat.reduceMul, hz.len, hc, loop, bi_all_s seqOf_lst, Bool.true_and]
  · have : ¬ (x.length : Int) = (c : Int) := by omega
    generalize c_p_shows_solution_1 = C1 at *
    simp -implicitDefEqProofs only [varE_ev, cE_ev, argsE_nil, argsE_cons, aK1_ok, aK2_ok, tupE_ev, tupK_ok, lstE_ev, lstK_ok, dctE_ev, newL_t, newL_f, newD_t, newD_f, binE_ev, binK1_ok, binK2_ok, idxE_ev, idxK1_ok, idxK2_ok, cmpE_ev, cmpK1_ok, cmpK2_ok, optV_s, optB_s, testB_ev, testK_ok, truE_ev, truK_ok, truO_s, notT_ev, notK_ok, andT_ev, andK_t, andK_f, orT_ev, orK_t, orK_f, andE_ev, andV1_ok, andV2_t, andV2_f, orE_ev, orV1_ok, orV2_t, orV2_f, notE_ev, notV1_ok, notV2_s, negE_ev, negK_ok, ifE_ev, ifV_t, ifV_f, chainE_ev, chK1_ok, chK2_ok, chK3_t, chK3_f, chK4_ok, partE_ev, partK_ok, noE_ev, sliceE_ev, slK1_ok, slK2_ok, slK3_ok, callE_ev, callK_ok, biE_ev, biK_ok, appE_ev, apK2_ok, getE_ev, geK2_ok, get2E_ev, gfK2_ok, gfK3_ok, geO_ok, asgN_ev, asgK_ok, asgT_ev, asgTK_ok, asgO_s, putE_ev, putK1_ok, putK2_ok, putK3_ok, putK4_ok, retE_ev, retK_ok, retN_ev, exprS_ev, exprK_ok, passS_ev, breakS_ev, contS_ev, ifS_ev, ifK_t, ifK_f, blkS_nil, blkS_cons, blkK_n, blkK_r, blkK_b, blkK_c, finK_r, finK_n, stT_nm, stT_tp, stTs_nil, stTs_cons, stO_s, Ev.add_int, Ev.sub_int, mul_intE, div_int, mod_intE, lt_intE, gt_intE, le_intE, ge_intE, eq_intE, ne_intE, eq_strE, ne_strE, eq_blE, ne_blE, is_nonE, is_blE, isnot_nonE, idx_lst, idx_tup, idx_refI, idx_refS, idx_dctI, idx_dctS, setL_lst, setL_str, ix4_0, ix4_1, ix4_2, ix4_3, fin_f, List.map, List.replicate, List.length_cons, List.length_nil, List.nil_append, List.cons_append, List.getElem?_cons_zero, List.getElem?_cons_succ, List.set_cons_zero, List.set_cons_succ, if_true, if_false, decide_true, decide_false, Bool.not_true, Bool.not_false, ite_true, ite_false, Ev.bi_len, lenO_s, bi_int, bi_intb, bi_abs, bi_min, bi_max, bi_gcd, bi_str, tr_bl, tr_int, Nat.sub_self, Nat.zero_add, Nat.reduceAdd, Nat.reduceSub, atI_0, atI_1, atI_2, atI_3, atI_4, Int.reduceNeg, Ev.pow_int, and_self, Bool.false_eq_true, reduceCtorEq, Option.bind_some, Option.bind_none, id_eq, Int.le_refl, Int.lt_irrefl, Int.reduceEq, Int.reduceNe, Int.reduceLT, Int.reduceLE, Int.reducePow, Int.reduceToNat, Int.reduceAbs, Nat.reducePow, Nat.reduceLT, Nat.reduceLeDiff, Nat.reduceEqDiff, Nat.reduceMul, hz.len, hc, this, Bool.false_and]
theorem lsolution_eq (hv : Mat L v rs) (hw : Row L w right) (hz : Row L z x) (hl : right.length = rs.length) (hr : Rows m c rs) (hx : AllSz n x) (hs : rs.length ≤ 1000) (hc9 : c ≤ 1000) (h9 : c * (m + n + 3) + (m + n + 3) < 8990) :
    evCall (tabOf ds) (k + 5) "_law_solves" [v, w, .int c, z] L = .ok (.bl (decide (x.length = c) && (okB rs right x).all id)) L := by
  rw [call_of h_law_solves]
  unfold b_law_solves
  by_cases hc : x.length = c
  · have loop : c_law_solves_1 (evCall (tabOf ds) (k + 4)) [some v, some w, some (.int c), some z, none] L = .ok (.lst ((okB rs right x).map .bl)) L := by
      unfold c_law_solves_1
      have e0 : biE .len false [varE 0] (evCall (tabOf ds) (k + 4)) [some v, some w, some (.int c), some z, none] L = .ok (.int rs.length) L := by simp -implicitDefEqProofs only [varE_ev, cE_ev, argsE_nil, argsE_cons, aK1_ok, aK2_ok, tupE_ev, tupK_ok, lstE_ev, lstK_ok, dctE_ev, newL_t, newL_f, newD_t, newD_f, binE_ev, binK1_ok, binK2_ok, idxE_ev, idxK1_ok, idxK2_ok, cmpE_ev, cmpK1_ok, cmpK2_ok, optV_s, optB_s, testB_ev, testK_ok, truE_ev, truK_ok, truO_s, notT_ev, notK_ok, andT_ev, andK_t, andK_f, orT_ev, orK_t, orK_f, andE_ev, andV1_ok, andV2_t, andV2_f, orE_ev, orV1_ok, orV2_t, orV2_f, notE_ev, notV1_ok, notV2_s, negE_ev, negK_ok, ifE_ev, ifV_t, ifV_f, chainE_ev, chK1_ok, chK2_ok, chK3_t, chK3_f, chK4_ok, partE_ev, partK_ok, noE_ev, sliceE_ev, slK1_ok, slK2_ok, slK3_ok, callE_ev, callK_ok, biE_ev, biK_ok, appE_ev, apK2_ok, getE_ev, geK2_ok, get2E_ev, gfK2_ok, gfK3_ok, geO_ok, asgN_ev, asgK_ok, asgT_ev, asgTK_ok, asgO_s, putE_ev, putK1_ok, putK2_ok, putK3_ok, putK4_ok, retE_ev, retK_ok, retN_ev, exprS_ev, exprK_ok, passS_ev, breakS_ev, contS_ev, ifS_ev, ifK_t, ifK_f, blkS_nil, blkS_cons, blkK_n, blkK_r, blkK_b, blkK_c, finK_r, finK_n, stT_nm, stT_tp, stTs_nil, stTs_cons, stO_s, Ev.add_int, Ev.sub_int, mul_intE, div_int, mod_intE, lt_intE, gt_intE, le_intE, ge_intE, eq_intE, ne_intE, eq_strE, ne_strE, eq_blE, ne_blE, is_nonE, is_blE, isnot_nonE, idx_lst, idx_tup, idx_refI, idx_refS, idx_dctI, idx_dctS, setL_lst, setL_str, ix4_0, ix4_1, ix4_2, ix4_3, fin_f, List.map, List.replicate, List.length_cons, List.length_nil, List.nil_append, List.cons_append, List.getElem?_cons_zero, List.getElem?_cons_succ, List.set_cons_zero, List.set_cons_succ, if_true, if_false, decide_true, decide_false, Bool.not_true, Bool.not_false, ite_true, ite_false, Ev.bi_len, lenO_s, bi_int, bi_intb, bi_abs, bi_min, bi_max, bi_gcd, bi_str, tr_bl, tr_int, Nat.sub_self, Nat.zero_add, Nat.reduceAdd, Nat.reduceSub, atI_0, atI_1, atI_2, atI_3, atI_4, Int.reduceNeg, Ev.pow_int, and_self, Bool.false_eq_true, reduceCtorEq, Option.bind_some, Option.bind_none, id_eq, Int.le_refl, Int.lt_irrefl, Int.reduceEq, Int.reduceNe, Int.reduceLT, Int.reduceLE, Int.reducePow, Int.reduceToNat, Int.reduceAbs, Nat.reducePow, Nat.reduceLT, Nat.reduceLeDiff, Nat.reduceEqDiff, Nat.reduceMul, hv.len]
      rw [lc_rng (zs := (okB rs right x).map .bl) e0 (by rw [List.length_map, okB_len hl]) (small_line hs)]
      · rfl
      · intro i y hi hy
        have hp : rs[i]? = some rs[i] := List.getElem?_eq_getElem hi
        have hrm : rs[i] ∈ rs := List.getElem_mem _
        generalize rs[i] = r at *
        have hq : right[i]? = some (right[i]'(by omega)) := List.getElem?_eq_getElem _
        generalize (right[i]'(by omega)) = q at *
        have rl := hr.len r hrm
        obtain ⟨u, h1, h2⟩ := hv.at hp
        have e := ldot_eq (k := k) h_law_gcd h_law_ratio h_law_add h_law_mul h_law_dot h2 hz (by omega) (hr.sz r hrm) hx (by omega) (by rw [rl]; exact h9)
        have := bl_at hy (okB_at hp hq)
        subst this
        exact ⟨[some v, some w, some (.int c), some z, some (.int i)], rfl, rfl, by simp -implicitDefEqProofs only [varE_ev, cE_ev, argsE_nil, argsE_cons, aK1_ok, aK2_ok, tupE_ev, tupK_ok, lstE_ev, lstK_ok, dctE_ev, newL_t, newL_f, newD_t, newD_f, binE_ev, binK1_ok, binK2_ok, idxE_ev, idxK1_ok, idxK2_ok, cmpE_ev, cmpK1_ok, cmpK2_ok, optV_s, optB_s, testB_ev, testK_ok, truE_ev, truK_ok, truO_s, notT_ev, notK_ok, andT_ev, andK_t, andK_f, orT_ev, orK_t, orK_f, andE_ev, andV1_ok, andV2_t, andV2_f, orE_ev, orV1_ok, orV2_t, orV2_f, notE_ev, notV1_ok, notV2_s, negE_ev, negK_ok, ifE_ev, ifV_t, ifV_f, chainE_ev, chK1_ok, chK2_ok, chK3_t, chK3_f, chK4_ok, partE_ev, partK_ok, noE_ev, sliceE_ev, slK1_ok, slK2_ok, slK3_ok, callE_ev, callK_ok, biE_ev, biK_ok, appE_ev, apK2_ok, getE_ev, geK2_ok, get2E_ev, gfK2_ok, gfK3_ok, geO_ok, asgN_ev, asgK_ok, asgT_ev, asgTK_ok, asgO_s, putE_ev, putK1_ok, putK2_ok, putK3_ok, putK4_ok, retE_ev, retK_ok, retN_ev, exprS_ev, exprK_ok, passS_ev, breakS_ev, contS_ev, ifS_ev, ifK_t, ifK_f, blkS_nil, blkS_cons, blkK_n, blkK_r, blkK_b, blkK_c, finK_r, finK_n, stT_nm, stT_tp, stTs_nil, stTs_cons, stO_s, Ev.add_int, Ev.sub_int, mul_intE, div_int, mod_intE, lt_intE, gt_intE, le_intE, ge_intE, eq_intE, ne_intE, eq_strE, ne_strE, eq_blE, ne_blE, is_nonE, is_blE, isnot_nonE, idx_lst, idx_tup, idx_refI, idx_refS, idx_dctI, idx_dctS, setL_lst, setL_str, ix4_0, ix4_1, ix4_2, ix4_3, fin_f, List.map, List.replicate, List.length_cons, List.length_nil, List.nil_append, List.cons_append, List.getElem?_cons_zero, List.getElem?_cons_succ, List.set_cons_zero, List.set_cons_succ, if_true, if_false, decide_true, decide_false, Bool.not_true, Bool.not_false, ite_true, ite_false, Ev.bi_len, lenO_s, bi_int, bi_intb, bi_abs, bi_min, bi_max, bi_gcd, bi_str, tr_bl, tr_int, Nat.sub_self, Nat.zero_add, Nat.reduceAdd, Nat.reduceSub, atI_0, atI_1, atI_2, atI_3, atI_4, Int.reduceNeg, Ev.pow_int, and_self, Bool.false_eq_true, reduceCtorEq, Option.bind_some, Option.bind_none, id_eq, Int.le_refl, Int.lt_irrefl, Int.reduceEq, Int.reduceNe, Int.reduceLT, Int.reduceLE, Int.reducePow, Int.reduceToNat, Int.reduceAbs, Nat.reducePow, Nat.reduceLT, Nat.reduceLeDiff, Nat.reduceEqDiff, Nat.reduceMul, h1, hw.at hq, e, eq_fr]⟩
    generalize c_law_solves_1 = C1 at *
    simp -implicitDefEqProofs only [varE_ev, cE_ev, argsE_nil, argsE_cons, aK1_ok, aK2_ok, tupE_ev, tupK_ok, lstE_ev, lstK_ok, dctE_ev, newL_t, newL_f, newD_t, newD_f, binE_ev, binK1_ok, binK2_ok, idxE_ev, idxK1_ok, idxK2_ok, cmpE_ev, cmpK1_ok, cmpK2_ok, optV_s, optB_s, testB_ev, testK_ok, truE_ev, truK_ok, truO_s, notT_ev, notK_ok, andT_ev, andK_t, andK_f, orT_ev, orK_t, orK_f, andE_ev, andV1_ok, andV2_t, andV2_f, orE_ev, orV1_ok, orV2_t, orV2_f, notE_ev, notV1_ok, notV2_s, negE_ev, negK_ok, ifE_ev, ifV_t, ifV_f, chainE_ev, chK1_ok, chK2_ok, chK3_t, chK3_f, chK4_ok, partE_ev, partK_ok, noE_ev, sliceE_ev, slK1_ok, slK2_ok, slK3_ok, callE_ev, callK_ok, biE_ev, biK_ok, appE_ev, apK2_ok, getE_ev, geK2_ok, get2E_ev, gfK2_ok, gfK3_ok, geO_ok, asgN_ev, asgK_ok, asgT_ev, asgTK_ok, asgO_s, putE_ev, putK1_ok, putK2_ok, putK3_ok, putK4_ok, retE_ev, retK_ok, retN_ev, exprS_ev, exprK_ok, passS_ev, breakS_ev, contS_ev, ifS_ev, ifK_t, ifK_f, blkS_nil, blkS_cons, blkK_n, blkK_r, blkK_b, blkK_c, finK_r, finK_n, stT_nm, stT_tp, stTs_nil, stTs_cons, stO_s, Ev.add_int, Ev.sub_int, mul_intE, div_int, mod_intE, lt_intE, gt_intE, le_intE, ge_intE, eq_intE, ne_intE, eq_strE, ne_strE, eq_blE, ne_blE, is_nonE, is_blE, isnot_nonE, idx_lst, idx_tup, idx_refI, idx_refS, idx_dctI, idx_dctS, setL_lst, setL_str, ix4_0, ix4_1, ix4_2, ix4_3, fin_f, List.map, List.replicate, List.length_cons, List.length_nil, List.nil_append, List.cons_append, List.getElem?_cons_zero, List.getElem?_cons_succ, List.set_cons_zero, List.set_cons_succ, if_true, if_false, decide_true, decide_false, Bool.not_true, Bool.not_false, ite_true, ite_false, Ev.bi_len, lenO_s, bi_int, bi_intb, bi_abs, bi_min, bi_max, bi_gcd, bi_str, tr_bl, tr_int, Nat.sub_self, Nat.zero_add, Nat.reduceAdd, Nat.reduceSub, atI_0, atI_1, atI_2, atI_3, atI_4, Int.reduceNeg, Ev.pow_int, and_self, Bool.false_eq_true, reduceCtorEq, Option.bind_some, Option.bind_none, id_eq, Int.le_refl, Int.lt_irrefl, Int.reduceEq, Int.reduceNe, Int.reduceLT, Int.reduceLE, Int.reducePow, Int.reduceToNat, Int.reduceAbs, Nat.reducePow, Nat.reduceLT, Nat.reduceLeDiff, Nat.reduceEqDiff, Nat.reduceMul, hz.len, hc, loop, bi_all_s seqOf_lst, Bool.true_and]
  · have : ¬ (x.length : Int) = (c : Int) := by omega
    generalize c_law_solves_1 = C1 at *
    simp -implicitDefEqProofs only [varE_ev, cE_ev, argsE_nil, argsE_cons, aK1_ok, aK2_ok, tupE_ev, tupK_ok, lstE_ev, lstK_ok, dctE_ev, newL_t, newL_f, newD_t, newD_f, binE_ev, binK1_ok, binK2_ok, idxE_ev, idxK1_ok, idxK2_ok, cmpE_ev, cmpK1_ok, cmpK2_ok, optV_s, optB_s, testB_ev, testK_ok, truE_ev, truK_ok, truO_s, notT_ev, notK_ok, andT_ev, andK_t, andK_f, orT_ev, orK_t, orK_f, andE_ev, andV1_ok, andV2_t, andV2_f, orE_ev, orV1_ok, orV2_t, orV2_f, notE_ev, notV1_ok, notV2_s, negE_ev, negK_ok, ifE_ev, ifV_t, ifV_f, chainE_ev, chK1_ok, chK2_ok, chK3_t, chK3_f, chK4_ok, partE_ev, partK_ok, noE_ev, sliceE_ev, slK1_ok, slK2_ok, slK3_ok, callE_ev, callK_ok, biE_ev, biK_ok, appE_ev, apK2_ok, getE_ev, geK2_ok, get2E_ev, gfK2_ok, gfK3_ok, geO_ok, asgN_ev, asgK_ok, asgT_ev, asgTK_ok, asgO_s, putE_ev, putK1_ok, putK2_ok, putK3_ok, putK4_ok, retE_ev, retK_ok, retN_ev, exprS_ev, exprK_ok, passS_ev, breakS_ev, contS_ev, ifS_ev, ifK_t, ifK_f, blkS_nil, blkS_cons, blkK_n, blkK_r, blkK_b, blkK_c, finK_r, finK_n, stT_nm, stT_tp, stTs_nil, stTs_cons, stO_s, Ev.add_int, Ev.sub_int, mul_intE, div_int, mod_intE, lt_intE, gt_intE, le_intE, ge_intE, eq_intE, ne_intE, eq_strE, ne_strE, eq_blE, ne_blE, is_nonE, is_blE, isnot_nonE, idx_lst, idx_tup, idx_refI, idx_refS, idx_dctI, idx_dctS, setL_lst, setL_str, ix4_0, ix4_1, ix4_2, ix4_3, fin_f, List.map, List.replicate, List.length_cons, List.length_nil, List.nil_append, List.cons_append, List.getElem?_cons_zero, List.getElem?_cons_succ, List.set_cons_zero, List.set_cons_succ, if_true, if_false, decide_true, decide_false, Bool.not_true, Bool.not_false, ite_true, ite_false, Ev.bi_len, lenO_s, bi_int, bi_intb, bi_abs, bi_min, bi_max, bi_gcd, bi_str, tr_bl, tr_int, Nat.sub_self, Nat.zero_add, Nat.reduceAdd, Nat.reduceSub, atI_0, atI_1, atI_2, atI_3, atI_4, Int.reduceNeg, Ev.pow_int, and_self, Bool.false_eq_true, reduceCtorEq, Option.bind_some, Option.bind_none, id_eq, Int.le_refl, Int.lt_irrefl, Int.reduceEq, Int.reduceNe, Int.reduceLT, Int.reduceLE, Int.reducePow, Int.reduceToNat, Int.reduceAbs, Nat.reducePow, Nat.reduceLT, Nat.reduceLeDiff, Nat.reduceEqDiff, Nat.reduceMul, hz.len, hc, this, Bool.false_and]
def noneB (rs : List (List Rat)) (right fs : List Rat) (c : Nat) : Bool := decide (fs.length = rs.length) && (decide (dq right fs = 1) && ((comb rs fs c).map fun q => decide (q = 0)).all id)
theorem none_eq (hv : Mat L v rs) (hw : Row L w right) (hz : Row L z fs) (hl : right.length = rs.length) (hr : Rows m c rs) (hR : AllSz m right) (hf : AllSz n fs) (hs : rs.length ≤ 1000) (hc9 : c ≤ 1000) (h9 : rs.length * (m + n + 3) + (m + n + 3) < 8990) :
    evCall (tabOf ds) (k + 4) "shows_no_solution" [v, w, .int c, z] L = .ok (.bl (noneB rs right fs c)) L := by
  rw [call_of h_p_shows_no_solution]
  unfold b_p_shows_no_solution noneB
  by_cases hc : fs.length = rs.length
  · have e1 := dot_eq (k := k) h_p_ratio h_p_added h_p_times h_p_dot hw hz (by omega) hR hf (by rw [hl]; exact h9)
    have e2 := combined_eq (k := k) h_p_ratio h_p_added h_p_times h_p_combined hv hz hc hr hf hc9 h9
    have cl : (comb rs fs c).length = c := by have := (comb_ok hr hf hc rs.length (Nat.le_refl _)).1; rwa [List.take_length, List.take_of_length_le (by omega)] at this
    have loop : c_p_shows_no_solution_1 (evCall (tabOf ds) (k + 3)) [some v, some w, some (.int c), some z, none] L = .ok (.lst (((comb rs fs c).map fun q => decide (q = 0)).map .bl)) L := by
      unfold c_p_shows_no_solution_1
      have e0 : callE "combined" [varE 0, varE 3, varE 2] (evCall (tabOf ds) (k + 3)) [some v, some w, some (.int c), some z, none] L = .ok (.lst ((comb rs fs c).map fr)) L := by simp -implicitDefEqProofs only [varE_ev, cE_ev, argsE_nil, argsE_cons, aK1_ok, aK2_ok, tupE_ev, tupK_ok, lstE_ev, lstK_ok, dctE_ev, newL_t, newL_f, newD_t, newD_f, binE_ev, binK1_ok, binK2_ok, idxE_ev, idxK1_ok, idxK2_ok, cmpE_ev, cmpK1_ok, cmpK2_ok, optV_s, optB_s, testB_ev, testK_ok, truE_ev, truK_ok, truO_s, notT_ev, notK_ok, andT_ev, andK_t, andK_f, orT_ev, orK_t, orK_f, andE_ev, andV1_ok, andV2_t, andV2_f, orE_ev, orV1_ok, orV2_t, orV2_f, notE_ev, notV1_ok, notV2_s, negE_ev, negK_ok, ifE_ev, ifV_t, ifV_f, chainE_ev, chK1_ok, chK2_ok, chK3_t, chK3_f, chK4_ok, partE_ev, partK_ok, noE_ev, sliceE_ev, slK1_ok, slK2_ok, slK3_ok, callE_ev, callK_ok, biE_ev, biK_ok, appE_ev, apK2_ok, getE_ev, geK2_ok, get2E_ev, gfK2_ok, gfK3_ok, geO_ok, asgN_ev, asgK_ok, asgT_ev, asgTK_ok, asgO_s, putE_ev, putK1_ok, putK2_ok, putK3_ok, putK4_ok, retE_ev, retK_ok, retN_ev, exprS_ev, exprK_ok, passS_ev, breakS_ev, contS_ev, ifS_ev, ifK_t, ifK_f, blkS_nil, blkS_cons, blkK_n, blkK_r, blkK_b, blkK_c, finK_r, finK_n, stT_nm, stT_tp, stTs_nil, stTs_cons, stO_s, Ev.add_int, Ev.sub_int, mul_intE, div_int, mod_intE, lt_intE, gt_intE, le_intE, ge_intE, eq_intE, ne_intE, eq_strE, ne_strE, eq_blE, ne_blE, is_nonE, is_blE, isnot_nonE, idx_lst, idx_tup, idx_refI, idx_refS, idx_dctI, idx_dctS, setL_lst, setL_str, ix4_0, ix4_1, ix4_2, ix4_3, fin_f, List.map, List.replicate, List.length_cons, List.length_nil, List.nil_append, List.cons_append, List.getElem?_cons_zero, List.getElem?_cons_succ, List.set_cons_zero, List.set_cons_succ, if_true, if_false, decide_true, decide_false, Bool.not_true, Bool.not_false, ite_true, ite_false, Ev.bi_len, lenO_s, bi_int, bi_intb, bi_abs, bi_min, bi_max, bi_gcd, bi_str, tr_bl, tr_int, Nat.sub_self, Nat.zero_add, Nat.reduceAdd, Nat.reduceSub, atI_0, atI_1, atI_2, atI_3, atI_4, Int.reduceNeg, Ev.pow_int, and_self, Bool.false_eq_true, reduceCtorEq, Option.bind_some, Option.bind_none, id_eq, Int.le_refl, Int.lt_irrefl, Int.reduceEq, Int.reduceNe, Int.reduceLT, Int.reduceLE, Int.reducePow, Int.reduceToNat, Int.reduceAbs, Nat.reducePow, Nat.reduceLT, Nat.reduceLeDiff, Nat.reduceEqDiff, Nat.reduceMul, e2]
      rw [lc_seq (zs := ((comb rs fs c).map fun q => decide (q = 0)).map .bl) e0 seqOf_lst (by simp) (small_line (by rw [List.length_map]; omega))]
      · rfl
      · intro i a y ha hy
        obtain ⟨q, hq, rfl⟩ := row_get ha
        have := bl_at hy (show ((comb rs fs c).map fun q => decide (q = 0))[i]? = some (decide (q = 0)) by rw [List.getElem?_map, hq]; rfl)
        subst this
        have e := eq_fr (L := L) q 0
        rw [fr_0] at e
        exact ⟨[some v, some w, some (.int c), some z, some (fr q)], rfl, rfl, by simp -implicitDefEqProofs only [varE_ev, cE_ev, argsE_nil, argsE_cons, aK1_ok, aK2_ok, tupE_ev, tupK_ok, lstE_ev, lstK_ok, dctE_ev, newL_t, newL_f, newD_t, newD_f, binE_ev, binK1_ok, binK2_ok, idxE_ev, idxK1_ok, idxK2_ok, cmpE_ev, cmpK1_ok, cmpK2_ok, optV_s, optB_s, testB_ev, testK_ok, truE_ev, truK_ok, truO_s, notT_ev, notK_ok, andT_ev, andK_t, andK_f, orT_ev, orK_t, orK_f, andE_ev, andV1_ok, andV2_t, andV2_f, orE_ev, orV1_ok, orV2_t, orV2_f, notE_ev, notV1_ok, notV2_s, negE_ev, negK_ok, ifE_ev, ifV_t, ifV_f, chainE_ev, chK1_ok, chK2_ok, chK3_t, chK3_f, chK4_ok, partE_ev, partK_ok, noE_ev, sliceE_ev, slK1_ok, slK2_ok, slK3_ok, callE_ev, callK_ok, biE_ev, biK_ok, appE_ev, apK2_ok, getE_ev, geK2_ok, get2E_ev, gfK2_ok, gfK3_ok, geO_ok, asgN_ev, asgK_ok, asgT_ev, asgTK_ok, asgO_s, putE_ev, putK1_ok, putK2_ok, putK3_ok, putK4_ok, retE_ev, retK_ok, retN_ev, exprS_ev, exprK_ok, passS_ev, breakS_ev, contS_ev, ifS_ev, ifK_t, ifK_f, blkS_nil, blkS_cons, blkK_n, blkK_r, blkK_b, blkK_c, finK_r, finK_n, stT_nm, stT_tp, stTs_nil, stTs_cons, stO_s, Ev.add_int, Ev.sub_int, mul_intE, div_int, mod_intE, lt_intE, gt_intE, le_intE, ge_intE, eq_intE, ne_intE, eq_strE, ne_strE, eq_blE, ne_blE, is_nonE, is_blE, isnot_nonE, idx_lst, idx_tup, idx_refI, idx_refS, idx_dctI, idx_dctS, setL_lst, setL_str, ix4_0, ix4_1, ix4_2, ix4_3, fin_f, List.map, List.replicate, List.length_cons, List.length_nil, List.nil_append, List.cons_append, List.getElem?_cons_zero, List.getElem?_cons_succ, List.set_cons_zero, List.set_cons_succ, if_true, if_false, decide_true, decide_false, Bool.not_true, Bool.not_false, ite_true, ite_false, Ev.bi_len, lenO_s, bi_int, bi_intb, bi_abs, bi_min, bi_max, bi_gcd, bi_str, tr_bl, tr_int, Nat.sub_self, Nat.zero_add, Nat.reduceAdd, Nat.reduceSub, atI_0, atI_1, atI_2, atI_3, atI_4, Int.reduceNeg, Ev.pow_int, and_self, Bool.false_eq_true, reduceCtorEq, Option.bind_some, Option.bind_none, id_eq, Int.le_refl, Int.lt_irrefl, Int.reduceEq, Int.reduceNe, Int.reduceLT, Int.reduceLE, Int.reducePow, Int.reduceToNat, Int.reduceAbs, Nat.reducePow, Nat.reduceLT, Nat.reduceLeDiff, Nat.reduceEqDiff, Nat.reduceMul, e]⟩
    generalize c_p_shows_no_solution_1 = C1 at *
    have e := ne_fr (L := L) (dq right fs) 1
    rw [fr_1] at e
    by_cases d1 : dq right fs = 1
    · have e : cmpL .NotEq L (fr 1) (.tup [.int 1, .int 1]) = some false := by rw [d1] at e; rw [e]; simp
      simp -implicitDefEqProofs only [varE_ev, cE_ev, argsE_nil, argsE_cons, aK1_ok, aK2_ok, tupE_ev, tupK_ok, lstE_ev, lstK_ok, dctE_ev, newL_t, newL_f, newD_t, newD_f, binE_ev, binK1_ok, binK2_ok, idxE_ev, idxK1_ok, idxK2_ok, cmpE_ev, cmpK1_ok, cmpK2_ok, optV_s, optB_s, testB_ev, testK_ok, truE_ev, truK_ok, truO_s, notT_ev, notK_ok, andT_ev, andK_t, andK_f, orT_ev, orK_t, orK_f, andE_ev, andV1_ok, andV2_t, andV2_f, orE_ev, orV1_ok, orV2_t, orV2_f, notE_ev, notV1_ok, notV2_s, negE_ev, negK_ok, ifE_ev, ifV_t, ifV_f, chainE_ev, chK1_ok, chK2_ok, chK3_t, chK3_f, chK4_ok, partE_ev, partK_ok, noE_ev, sliceE_ev, slK1_ok, slK2_ok, slK3_ok, callE_ev, callK_ok, biE_ev, biK_ok, appE_ev, apK2_ok, getE_ev, geK2_ok, get2E_ev, gfK2_ok, gfK3_ok, geO_ok, asgN_ev, asgK_ok, asgT_ev, asgTK_ok, asgO_s, putE_ev, putK1_ok, putK2_ok, putK3_ok, putK4_ok, retE_ev, retK_ok, retN_ev, exprS_ev, exprK_ok, passS_ev, breakS_ev, contS_ev, ifS_ev, ifK_t, ifK_f, blkS_nil, blkS_cons, blkK_n, blkK_r, blkK_b, blkK_c, finK_r, finK_n, stT_nm, stT_tp, stTs_nil, stTs_cons, stO_s, Ev.add_int, Ev.sub_int, mul_intE, div_int, mod_intE, lt_intE, gt_intE, le_intE, ge_intE, eq_intE, ne_intE, eq_strE, ne_strE, eq_blE, ne_blE, is_nonE, is_blE, isnot_nonE, idx_lst, idx_tup, idx_refI, idx_refS, idx_dctI, idx_dctS, setL_lst, setL_str, ix4_0, ix4_1, ix4_2, ix4_3, fin_f, List.map, List.replicate, List.length_cons, List.length_nil, List.nil_append, List.cons_append, List.getElem?_cons_zero, List.getElem?_cons_succ, List.set_cons_zero, List.set_cons_succ, if_true, if_false, decide_true, decide_false, Bool.not_true, Bool.not_false, ite_true, ite_false, Ev.bi_len, lenO_s, bi_int, bi_intb, bi_abs, bi_min, bi_max, bi_gcd, bi_str, tr_bl, tr_int, Nat.sub_self, Nat.zero_add, Nat.reduceAdd, Nat.reduceSub, atI_0, atI_1, atI_2, atI_3, atI_4, Int.reduceNeg, Ev.pow_int, and_self, Bool.false_eq_true, reduceCtorEq, Option.bind_some, Option.bind_none, id_eq, Int.le_refl, Int.lt_irrefl, Int.reduceEq, Int.reduceNe, Int.reduceLT, Int.reduceLE, Int.reducePow, Int.reduceToNat, Int.reduceAbs, Nat.reducePow, Nat.reduceLT, Nat.reduceLeDiff, Nat.reduceEqDiff, Nat.reduceMul, hz.len, hv.len, hc, e1, e, d1, loop, bi_all_s seqOf_lst, Bool.true_and]
    · simp -implicitDefEqProofs only [varE_ev, cE_ev, argsE_nil, argsE_cons, aK1_ok, aK2_ok, tupE_ev, tupK_ok, lstE_ev, lstK_ok, dctE_ev, newL_t, newL_f, newD_t, newD_f, binE_ev, binK1_ok, binK2_ok, idxE_ev, idxK1_ok, idxK2_ok, cmpE_ev, cmpK1_ok, cmpK2_ok, optV_s, optB_s, testB_ev, testK_ok, truE_ev, truK_ok, truO_s, notT_ev, notK_ok, andT_ev, andK_t, andK_f, orT_ev, orK_t, orK_f, andE_ev, andV1_ok, andV2_t, andV2_f, orE_ev, orV1_ok, orV2_t, orV2_f, notE_ev, notV1_ok, notV2_s, negE_ev, negK_ok, ifE_ev, ifV_t, ifV_f, chainE_ev, chK1_ok, chK2_ok, chK3_t, chK3_f, chK4_ok, partE_ev, partK_ok, noE_ev, sliceE_ev, slK1_ok, slK2_ok, slK3_ok, callE_ev, callK_ok, biE_ev, biK_ok, appE_ev, apK2_ok, getE_ev, geK2_ok, get2E_ev, gfK2_ok, gfK3_ok, geO_ok, asgN_ev, asgK_ok, asgT_ev, asgTK_ok, asgO_s, putE_ev, putK1_ok, putK2_ok, putK3_ok, putK4_ok, retE_ev, retK_ok, retN_ev, exprS_ev, exprK_ok, passS_ev, breakS_ev, contS_ev, ifS_ev, ifK_t, ifK_f, blkS_nil, blkS_cons, blkK_n, blkK_r, blkK_b, blkK_c, finK_r, finK_n, stT_nm, stT_tp, stTs_nil, stTs_cons, stO_s, Ev.add_int, Ev.sub_int, mul_intE, div_int, mod_intE, lt_intE, gt_intE, le_intE, ge_intE, eq_intE, ne_intE, eq_strE, ne_strE, eq_blE, ne_blE, is_nonE, is_blE, isnot_nonE, idx_lst, idx_tup, idx_refI, idx_refS, idx_dctI, idx_dctS, setL_lst, setL_str, ix4_0, ix4_1, ix4_2, ix4_3, fin_f, List.map, List.replicate, List.length_cons, List.length_nil, List.nil_append, List.cons_append, List.getElem?_cons_zero, List.getElem?_cons_succ, List.set_cons_zero, List.set_cons_succ, if_true, if_false, decide_true, decide_false, Bool.not_true, Bool.not_false, ite_true, ite_false, Ev.bi_len, lenO_s, bi_int, bi_intb, bi_abs, bi_min, bi_max, bi_gcd, bi_str, tr_bl, tr_int, Nat.sub_self, Nat.zero_add, Nat.reduceAdd, Nat.reduceSub, atI_0, atI_1, atI_2, atI_3, atI_4, Int.reduceNeg, Ev.pow_int, and_self, Bool.false_eq_true, reduceCtorEq, Option.bind_some, Option.bind_none, id_eq, Int.le_refl, Int.lt_irrefl, Int.reduceEq, Int.reduceNe, Int.reduceLT, Int.reduceLE, Int.reducePow, Int.reduceToNat, Int.reduceAbs, Nat.reducePow, Nat.reduceLT, Nat.reduceLeDiff, Nat.reduceEqDiff, Nat.reduceMul, hz.len, hv.len, hc, e1, e, d1, Bool.true_and, Bool.false_and]
  · have : ¬ (fs.length : Int) = (rs.length : Int) := by omega
    generalize c_p_shows_no_solution_1 = C1 at *
    simp -implicitDefEqProofs only [varE_ev, cE_ev, argsE_nil, argsE_cons, aK1_ok, aK2_ok, tupE_ev, tupK_ok, lstE_ev, lstK_ok, dctE_ev, newL_t, newL_f, newD_t, newD_f, binE_ev, binK1_ok, binK2_ok, idxE_ev, idxK1_ok, idxK2_ok, cmpE_ev, cmpK1_ok, cmpK2_ok, optV_s, optB_s, testB_ev, testK_ok, truE_ev, truK_ok, truO_s, notT_ev, notK_ok, andT_ev, andK_t, andK_f, orT_ev, orK_t, orK_f, andE_ev, andV1_ok, andV2_t, andV2_f, orE_ev, orV1_ok, orV2_t, orV2_f, notE_ev, notV1_ok, notV2_s, negE_ev, negK_ok, ifE_ev, ifV_t, ifV_f, chainE_ev, chK1_ok, chK2_ok, chK3_t, chK3_f, chK4_ok, partE_ev, partK_ok, noE_ev, sliceE_ev, slK1_ok, slK2_ok, slK3_ok, callE_ev, callK_ok, biE_ev, biK_ok, appE_ev, apK2_ok, getE_ev, geK2_ok, get2E_ev, gfK2_ok, gfK3_ok, geO_ok, asgN_ev, asgK_ok, asgT_ev, asgTK_ok, asgO_s, putE_ev, putK1_ok, putK2_ok, putK3_ok, putK4_ok, retE_ev, retK_ok, retN_ev, exprS_ev, exprK_ok, passS_ev, breakS_ev, contS_ev, ifS_ev, ifK_t, ifK_f, blkS_nil, blkS_cons, blkK_n, blkK_r, blkK_b, blkK_c, finK_r, finK_n, stT_nm, stT_tp, stTs_nil, stTs_cons, stO_s, Ev.add_int, Ev.sub_int, mul_intE, div_int, mod_intE, lt_intE, gt_intE, le_intE, ge_intE, eq_intE, ne_intE, eq_strE, ne_strE, eq_blE, ne_blE, is_nonE, is_blE, isnot_nonE, idx_lst, idx_tup, idx_refI, idx_refS, idx_dctI, idx_dctS, setL_lst, setL_str, ix4_0, ix4_1, ix4_2, ix4_3, fin_f, List.map, List.replicate, List.length_cons, List.length_nil, List.nil_append, List.cons_append, List.getElem?_cons_zero, List.getElem?_cons_succ, List.set_cons_zero, List.set_cons_succ, if_true, if_false, decide_true, decide_false, Bool.not_true, Bool.not_false, ite_true, ite_false, Ev.bi_len, lenO_s, bi_int, bi_intb, bi_abs, bi_min, bi_max, bi_gcd, bi_str, tr_bl, tr_int, Nat.sub_self, Nat.zero_add, Nat.reduceAdd, Nat.reduceSub, atI_0, atI_1, atI_2, atI_3, atI_4, Int.reduceNeg, Ev.pow_int, and_self, Bool.false_eq_true, reduceCtorEq, Option.bind_some, Option.bind_none, id_eq, Int.le_refl, Int.lt_irrefl, Int.reduceEq, Int.reduceNe, Int.reduceLT, Int.reduceLE, Int.reducePow, Int.reduceToNat, Int.reduceAbs, Nat.reducePow, Nat.reduceLT, Nat.reduceLeDiff, Nat.reduceEqDiff, Nat.reduceMul, hz.len, hv.len, hc, this, Bool.false_and]
theorem lnone_eq (hv : Mat L v rs) (hw : Row L w right) (hz : Row L z fs) (hl : right.length = rs.length) (hr : Rows m c rs) (hR : AllSz m right) (hf : AllSz n fs) (hs : rs.length ≤ 1000) (hc9 : c ≤ 1000) (h9 : rs.length * (m + n + 5) + (m + n + 9) < 8990) :
    evCall (tabOf ds) (k + 6) "_law_shows_none" [v, w, .int c, z] L = .ok (.bl (noneB rs right fs c)) L := by
  rw [call_of h_law_shows_none]
  unfold b_law_shows_none noneB
  by_cases hc : fs.length = rs.length
  · have hb : rs.length * (m + n + 3) ≤ rs.length * (m + n + 5) := Nat.mul_le_mul_left _ (by omega)
    have e1 := ldot_eq (k := k + 1) h_law_gcd h_law_ratio h_law_add h_law_mul h_law_dot hw hz (by omega) hR hf (by omega) (by rw [hl]; omega)
    have e2 := lcombined_eq (k := k) h_law_gcd h_law_ratio h_law_sub h_law_mul h_law_minus h_law_combined hv hz hc hr hf hc9 hs h9
    have cl : (comb rs fs c).length = c := by have := (comb_ok hr hf hc rs.length (Nat.le_refl _)).1; rwa [List.take_length, List.take_of_length_le (by omega)] at this
    obtain ⟨i, e3, e4⟩ := first_eq (k := k + 4) (L := L) h_law_first (Row.lst (L := L) (comb rs fs c)) (by omega)
    have e := ne_fr (L := L) (dq right fs) 1
    rw [fr_1] at e
    have ha : decide (i < 0) = ((comb rs fs c).map fun q => decide (q = 0)).all id := by
      by_cases h : i < 0
      · rw [decide_eq_true h]
        have h := e4.mp h
        symm
        rw [List.all_map, List.all_eq_true]
        intro q hq
        simp [h q hq]
      · rw [decide_eq_false h]
        symm
        rw [Bool.eq_false_iff]
        intro ht
        rw [List.all_map, List.all_eq_true] at ht
        exact h (e4.mpr fun q hq => by simpa using ht q hq)
    by_cases d1 : dq right fs = 1
    · have e : cmpL .NotEq L (fr 1) (.tup [.int 1, .int 1]) = some false := by rw [d1] at e; rw [e]; simp
      simp -implicitDefEqProofs only [varE_ev, cE_ev, argsE_nil, argsE_cons, aK1_ok, aK2_ok, tupE_ev, tupK_ok, lstE_ev, lstK_ok, dctE_ev, newL_t, newL_f, newD_t, newD_f, binE_ev, binK1_ok, binK2_ok, idxE_ev, idxK1_ok, idxK2_ok, cmpE_ev, cmpK1_ok, cmpK2_ok, optV_s, optB_s, testB_ev, testK_ok, truE_ev, truK_ok, truO_s, notT_ev, notK_ok, andT_ev, andK_t, andK_f, orT_ev, orK_t, orK_f, andE_ev, andV1_ok, andV2_t, andV2_f, orE_ev, orV1_ok, orV2_t, orV2_f, notE_ev, notV1_ok, notV2_s, negE_ev, negK_ok, ifE_ev, ifV_t, ifV_f, chainE_ev, chK1_ok, chK2_ok, chK3_t, chK3_f, chK4_ok, partE_ev, partK_ok, noE_ev, sliceE_ev, slK1_ok, slK2_ok, slK3_ok, callE_ev, callK_ok, biE_ev, biK_ok, appE_ev, apK2_ok, getE_ev, geK2_ok, get2E_ev, gfK2_ok, gfK3_ok, geO_ok, asgN_ev, asgK_ok, asgT_ev, asgTK_ok, asgO_s, putE_ev, putK1_ok, putK2_ok, putK3_ok, putK4_ok, retE_ev, retK_ok, retN_ev, exprS_ev, exprK_ok, passS_ev, breakS_ev, contS_ev, ifS_ev, ifK_t, ifK_f, blkS_nil, blkS_cons, blkK_n, blkK_r, blkK_b, blkK_c, finK_r, finK_n, stT_nm, stT_tp, stTs_nil, stTs_cons, stO_s, Ev.add_int, Ev.sub_int, mul_intE, div_int, mod_intE, lt_intE, gt_intE, le_intE, ge_intE, eq_intE, ne_intE, eq_strE, ne_strE, eq_blE, ne_blE, is_nonE, is_blE, isnot_nonE, idx_lst, idx_tup, idx_refI, idx_refS, idx_dctI, idx_dctS, setL_lst, setL_str, ix4_0, ix4_1, ix4_2, ix4_3, fin_f, List.map, List.replicate, List.length_cons, List.length_nil, List.nil_append, List.cons_append, List.getElem?_cons_zero, List.getElem?_cons_succ, List.set_cons_zero, List.set_cons_succ, if_true, if_false, decide_true, decide_false, Bool.not_true, Bool.not_false, ite_true, ite_false, Ev.bi_len, lenO_s, bi_int, bi_intb, bi_abs, bi_min, bi_max, bi_gcd, bi_str, tr_bl, tr_int, Nat.sub_self, Nat.zero_add, Nat.reduceAdd, Nat.reduceSub, atI_0, atI_1, atI_2, atI_3, atI_4, Int.reduceNeg, Ev.pow_int, and_self, Bool.false_eq_true, reduceCtorEq, Option.bind_some, Option.bind_none, id_eq, Int.le_refl, Int.lt_irrefl, Int.reduceEq, Int.reduceNe, Int.reduceLT, Int.reduceLE, Int.reducePow, Int.reduceToNat, Int.reduceAbs, Nat.reducePow, Nat.reduceLT, Nat.reduceLeDiff, Nat.reduceEqDiff, Nat.reduceMul, hz.len, hv.len, hc, e1, e, d1, e2, e3, ha, Bool.true_and]
    · simp -implicitDefEqProofs only [varE_ev, cE_ev, argsE_nil, argsE_cons, aK1_ok, aK2_ok, tupE_ev, tupK_ok, lstE_ev, lstK_ok, dctE_ev, newL_t, newL_f, newD_t, newD_f, binE_ev, binK1_ok, binK2_ok, idxE_ev, idxK1_ok, idxK2_ok, cmpE_ev, cmpK1_ok, cmpK2_ok, optV_s, optB_s, testB_ev, testK_ok, truE_ev, truK_ok, truO_s, notT_ev, notK_ok, andT_ev, andK_t, andK_f, orT_ev, orK_t, orK_f, andE_ev, andV1_ok, andV2_t, andV2_f, orE_ev, orV1_ok, orV2_t, orV2_f, notE_ev, notV1_ok, notV2_s, negE_ev, negK_ok, ifE_ev, ifV_t, ifV_f, chainE_ev, chK1_ok, chK2_ok, chK3_t, chK3_f, chK4_ok, partE_ev, partK_ok, noE_ev, sliceE_ev, slK1_ok, slK2_ok, slK3_ok, callE_ev, callK_ok, biE_ev, biK_ok, appE_ev, apK2_ok, getE_ev, geK2_ok, get2E_ev, gfK2_ok, gfK3_ok, geO_ok, asgN_ev, asgK_ok, asgT_ev, asgTK_ok, asgO_s, putE_ev, putK1_ok, putK2_ok, putK3_ok, putK4_ok, retE_ev, retK_ok, retN_ev, exprS_ev, exprK_ok, passS_ev, breakS_ev, contS_ev, ifS_ev, ifK_t, ifK_f, blkS_nil, blkS_cons, blkK_n, blkK_r, blkK_b, blkK_c, finK_r, finK_n, stT_nm, stT_tp, stTs_nil, stTs_cons, stO_s, Ev.add_int, Ev.sub_int, mul_intE, div_int, mod_intE, lt_intE, gt_intE, le_intE, ge_intE, eq_intE, ne_intE, eq_strE, ne_strE, eq_blE, ne_blE, is_nonE, is_blE, isnot_nonE, idx_lst, idx_tup, idx_refI, idx_refS, idx_dctI, idx_dctS, setL_lst, setL_str, ix4_0, ix4_1, ix4_2, ix4_3, fin_f, List.map, List.replicate, List.length_cons, List.length_nil, List.nil_append, List.cons_append, List.getElem?_cons_zero, List.getElem?_cons_succ, List.set_cons_zero, List.set_cons_succ, if_true, if_false, decide_true, decide_false, Bool.not_true, Bool.not_false, ite_true, ite_false, Ev.bi_len, lenO_s, bi_int, bi_intb, bi_abs, bi_min, bi_max, bi_gcd, bi_str, tr_bl, tr_int, Nat.sub_self, Nat.zero_add, Nat.reduceAdd, Nat.reduceSub, atI_0, atI_1, atI_2, atI_3, atI_4, Int.reduceNeg, Ev.pow_int, and_self, Bool.false_eq_true, reduceCtorEq, Option.bind_some, Option.bind_none, id_eq, Int.le_refl, Int.lt_irrefl, Int.reduceEq, Int.reduceNe, Int.reduceLT, Int.reduceLE, Int.reducePow, Int.reduceToNat, Int.reduceAbs, Nat.reducePow, Nat.reduceLT, Nat.reduceLeDiff, Nat.reduceEqDiff, Nat.reduceMul, hz.len, hv.len, hc, e1, e, d1, Bool.true_and, Bool.false_and]
  · have : ¬ (fs.length : Int) = (rs.length : Int) := by omega
    simp -implicitDefEqProofs only [varE_ev, cE_ev, argsE_nil, argsE_cons, aK1_ok, aK2_ok, tupE_ev, tupK_ok, lstE_ev, lstK_ok, dctE_ev, newL_t, newL_f, newD_t, newD_f, binE_ev, binK1_ok, binK2_ok, idxE_ev, idxK1_ok, idxK2_ok, cmpE_ev, cmpK1_ok, cmpK2_ok, optV_s, optB_s, testB_ev, testK_ok, truE_ev, truK_ok, truO_s, notT_ev, notK_ok, andT_ev, andK_t, andK_f, orT_ev, orK_t, orK_f, andE_ev, andV1_ok, andV2_t, andV2_f, orE_ev, orV1_ok, orV2_t, orV2_f, notE_ev, notV1_ok, notV2_s, negE_ev, negK_ok, ifE_ev, ifV_t, ifV_f, chainE_ev, chK1_ok, chK2_ok, chK3_t, chK3_f, chK4_ok, partE_ev, partK_ok, noE_ev, sliceE_ev, slK1_ok, slK2_ok, slK3_ok, callE_ev, callK_ok, biE_ev, biK_ok, appE_ev, apK2_ok, getE_ev, geK2_ok, get2E_ev, gfK2_ok, gfK3_ok, geO_ok, asgN_ev, asgK_ok, asgT_ev, asgTK_ok, asgO_s, putE_ev, putK1_ok, putK2_ok, putK3_ok, putK4_ok, retE_ev, retK_ok, retN_ev, exprS_ev, exprK_ok, passS_ev, breakS_ev, contS_ev, ifS_ev, ifK_t, ifK_f, blkS_nil, blkS_cons, blkK_n, blkK_r, blkK_b, blkK_c, finK_r, finK_n, stT_nm, stT_tp, stTs_nil, stTs_cons, stO_s, Ev.add_int, Ev.sub_int, mul_intE, div_int, mod_intE, lt_intE, gt_intE, le_intE, ge_intE, eq_intE, ne_intE, eq_strE, ne_strE, eq_blE, ne_blE, is_nonE, is_blE, isnot_nonE, idx_lst, idx_tup, idx_refI, idx_refS, idx_dctI, idx_dctS, setL_lst, setL_str, ix4_0, ix4_1, ix4_2, ix4_3, fin_f, List.map, List.replicate, List.length_cons, List.length_nil, List.nil_append, List.cons_append, List.getElem?_cons_zero, List.getElem?_cons_succ, List.set_cons_zero, List.set_cons_succ, if_true, if_false, decide_true, decide_false, Bool.not_true, Bool.not_false, ite_true, ite_false, Ev.bi_len, lenO_s, bi_int, bi_intb, bi_abs, bi_min, bi_max, bi_gcd, bi_str, tr_bl, tr_int, Nat.sub_self, Nat.zero_add, Nat.reduceAdd, Nat.reduceSub, atI_0, atI_1, atI_2, atI_3, atI_4, Int.reduceNeg, Ev.pow_int, and_self, Bool.false_eq_true, reduceCtorEq, Option.bind_some, Option.bind_none, id_eq, Int.le_refl, Int.lt_irrefl, Int.reduceEq, Int.reduceNe, Int.reduceLT, Int.reduceLE, Int.reducePow, Int.reduceToNat, Int.reduceAbs, Nat.reducePow, Nat.reduceLT, Nat.reduceLeDiff, Nat.reduceEqDiff, Nat.reduceMul, hz.len, hv.len, hc, this, Bool.false_and]
end
end K02

set_option maxHeartbeats 4000000
namespace K02
open PySem Ev
open L2 (atI cutS)
section
variable {k : Nat} {p : Pl} {X : List LO} {v : LV} {a : List Rat} {m b : Nat}
theorem fr_a : LV.tup [.int (-1), .int 7] = fr ((-1 : Rat) / 7) := by
  unfold fr
  rw [show ((-1 : Rat) / 7).num = -1 by decide +kernel, show ((-1 : Rat) / 7).den = 7 by decide +kernel]; rfl
theorem fr_b : LV.tup [.int 1, .int 1000000] = fr ((1 : Rat) / 1000000) := by
  unfold fr
  rw [show ((1 : Rat) / 1000000).num = 1 by decide +kernel, show ((1 : Rat) / 1000000).den = 1000000 by decide +kernel]; rfl
theorem change_ok {x : LV} (h : x ∈ [LV.tup [.int 1, .int 1], LV.tup [.int (-1), .int 7], LV.tup [.int 1, .int 1000000]]) : ∃ q, x = fr q ∧ Sz 20 q := by
  simp only [List.mem_cons, List.not_mem_nil, or_false] at h
  rcases h with rfl | rfl | rfl
  · exact ⟨1, fr_1.symm, (show Sz 0 1 from ⟨by decide +kernel, by decide +kernel⟩).mono (by omega)⟩
  · exact ⟨_, fr_a, (show Sz 2 ((-1 : Rat) / 7) from ⟨by decide +kernel, by decide +kernel⟩).mono (by omega)⟩
  · exact ⟨_, fr_b, (show Sz 19 ((1 : Rat) / 1000000) from ⟨by decide +kernel, by decide +kernel⟩).mono (by omega)⟩
def Good (L : List LO) (c m : Nat) (u : LV) : Prop := ∃ fs, Row L u fs ∧ fs.length ≤ c ∧ AllSz m fs
theorem Good.keep {L L' : List LO} {c m : Nat} {u : LV} (h : Good L c m u) (kp : Keep L L') : Good L' c m u := let ⟨fs, a, b, d⟩ := h; ⟨fs, a.keep kp, b, d⟩
theorem turn_papers {L0 : List LO} {Z2 : List LO} (hv : ∀ o Z, Row (o :: (Z2 ++ Z)) v a) (ha : AllSz m a) (hl : a.length ≤ 100) (hm : m ≤ 400) {vs : List LV} (hvs : vs.length ≤ 8) (hg : ∀ u ∈ vs, Good L0 (a.length + 1) (m + 24) u) (hp : PlOk (b + 2) p) {y1 y2 y3 : Option LV} :
    ∃ p' vs' z2 z3, l_law_papers_1 (evCall (tabOf ds) (k + 5)) [some (.ref 0), some v, some (.ref (Z2.length + 1)), y1, y2, y3, none] (p.lo :: (Z2 ++ [.lst vs])) = .ok (.next, [some (.ref 0), some v, some (.ref (Z2.length + 1)), y1, z2, z3, none]) (p'.lo :: (Z2 ++ [.lst vs'])) ∧ PlOk b p' ∧ vs'.length ≤ vs.length + 1 ∧ ∀ u ∈ vs', Good L0 (a.length + 1) (m + 24) u := by
  have hvN := hv p.lo [.lst vs]
  by_cases h0 : a.length = 0
  · refine ⟨p, vs, y2, y3, ?_, hp.mono (by omega), by omega, hg⟩
    unfold l_law_papers_1
    simp -implicitDefEqProofs only [varE_ev, cE_ev, argsE_nil, argsE_cons, aK1_ok, aK2_ok, tupE_ev, tupK_ok, lstE_ev, lstK_ok, dctE_ev, newL_t, newL_f, newD_t, newD_f, binE_ev, binK1_ok, binK2_ok, idxE_ev, idxK1_ok, idxK2_ok, cmpE_ev, cmpK1_ok, cmpK2_ok, optV_s, optB_s, testB_ev, testK_ok, truE_ev, truK_ok, truO_s, notT_ev, notK_ok, andT_ev, andK_t, andK_f, orT_ev, orK_t, orK_f, andE_ev, andV1_ok, andV2_t, andV2_f, orE_ev, orV1_ok, orV2_t, orV2_f, notE_ev, notV1_ok, notV2_s, negE_ev, negK_ok, ifE_ev, ifV_t, ifV_f, chainE_ev, chK1_ok, chK2_ok, chK3_t, chK3_f, chK4_ok, partE_ev, partK_ok, noE_ev, sliceE_ev, slK1_ok, slK2_ok, slK3_ok, callE_ev, callK_ok, biE_ev, biK_ok, appE_ev, apK2_ok, getE_ev, geK2_ok, get2E_ev, gfK2_ok, gfK3_ok, geO_ok, asgN_ev, asgK_ok, asgT_ev, asgTK_ok, asgO_s, putE_ev, putK1_ok, putK2_ok, putK3_ok, putK4_ok, retE_ev, retK_ok, retN_ev, exprS_ev, exprK_ok, passS_ev, breakS_ev, contS_ev, ifS_ev, ifK_t, ifK_f, blkS_nil, blkS_cons, blkK_n, blkK_r, blkK_b, blkK_c, finK_r, finK_n, stT_nm, stT_tp, stTs_nil, stTs_cons, stO_s, Ev.add_int, Ev.sub_int, mul_intE, div_int, mod_intE, lt_intE, gt_intE, le_intE, ge_intE, eq_intE, ne_intE, eq_strE, ne_strE, eq_blE, ne_blE, is_nonE, is_blE, isnot_nonE, idx_lst, idx_tup, idx_refI, idx_refS, idx_dctI, idx_dctS, setL_lst, setL_str, ix4_0, ix4_1, ix4_2, ix4_3, fin_f, List.map, List.replicate, List.length_cons, List.length_nil, List.nil_append, List.cons_append, List.getElem?_cons_zero, List.getElem?_cons_succ, List.set_cons_zero, List.set_cons_succ, if_true, if_false, decide_true, decide_false, Bool.not_true, Bool.not_false, ite_true, ite_false, Ev.bi_len, lenO_s, bi_int, bi_intb, bi_abs, bi_min, bi_max, bi_gcd, bi_str, tr_bl, tr_int, Nat.sub_self, Nat.zero_add, Nat.reduceAdd, Nat.reduceSub, atI_0, atI_1, atI_2, atI_3, atI_4, Int.reduceNeg, Ev.pow_int, and_self, Bool.false_eq_true, reduceCtorEq, Option.bind_some, Option.bind_none, id_eq, Int.le_refl, Int.lt_irrefl, Int.reduceEq, Int.reduceNe, Int.reduceLT, Int.reduceLE, Int.reducePow, Int.reduceToNat, Int.reduceAbs, Nat.reducePow, Nat.reduceLT, Nat.reduceLeDiff, Nat.reduceEqDiff, Nat.reduceMul, hvN.len, h0, Int.cast_ofNat_Int]
  · obtain ⟨d, p1, d0, d1, hp1, e1⟩ := draw0 h_law_mixed h_law_rest h_law_draw (k + 2) (lim := a.length) hp (by omega) (Z2 ++ [.lst vs]) (by
      have : lg (a.length : Int) ≤ 10 := lg_of (by omega)
      omega)
    obtain ⟨n, rfl⟩ : ∃ n : Nat, d = n := ⟨d.toNat, by omega⟩
    obtain ⟨x, p2, hx, hp2, e2⟩ := pick_eq h_law_mixed h_law_rest h_law_draw h_law_pick (k + 1) (L := p1.lo :: (Z2 ++ [.lst vs])) (i := 0) (xs := [LV.tup [.int 1, .int 1], LV.tup [.int (-1), .int 7], LV.tup [.int 1, .int 1000000]]) rfl hp1 (by simp) (by simp)
    obtain ⟨q, rfl, sq⟩ := change_ok hx
    have hn : n < a.length := by omega
    have hq : a[n]? = some a[n] := List.getElem?_eq_getElem hn
    generalize a[n] = w at *
    have hvM := hv p2.lo [.lst vs]
    have e3 := ladd_eq h_law_gcd h_law_ratio h_law_add (k + 2) (p2.lo :: (Z2 ++ [.lst vs])) (ha.at hq) sq (by omega)
    have e4 := slice_seq (mu := false) (lo := none) (hi := some (n : Int)) hvM.1
    rw [cutG_take (by rw [List.length_map]; omega), ← List.map_take] at e4
    have e5 := slice_seq (mu := false) (lo := some ((n : Int) + 1)) (hi := none) hvM.1
    rw [show (n : Int) + 1 = ((n + 1 : Nat) : Int) by omega, cutG_drop (by rw [List.length_map]; omega), ← List.map_drop, ← show (n : Int) + 1 = ((n + 1 : Nat) : Int) by omega] at e5
    have sl : 1000 < sizeLine := by decide
    have e6 := add_seq (mu := false) (L := p2.lo :: (Z2 ++ [.lst vs])) (v := .lst ((a.take n).map fr)) (w := .lst [fr (w + q)]) (by simp; omega) seqOf_lst seqOf_lst
    have e7 := add_seq (mu := false) (L := p2.lo :: (Z2 ++ [.lst vs])) (v := .lst ((a.take n).map fr ++ [fr (w + q)])) (w := .lst ((a.drop (n + 1)).map fr)) (by simp; omega) seqOf_lst seqOf_lst
    have sv : vs.length < sizeLine := small_line (by omega)
    have gl : (p2.lo :: (Z2 ++ [LO.lst vs]))[Z2.length + 1]? = some (.lst vs) := by rw [List.getElem?_cons_succ]; exact get_last
    refine ⟨p2, vs ++ [.lst ((a.take n).map fr ++ [fr (w + q)] ++ (a.drop (n + 1)).map fr)], some (.int n), some (fr q), ?_, hp2, by simp, fun u hu => ?_⟩
    · unfold l_law_papers_1
      have pos : (0 : Int) < a.length := by omega
      simp -implicitDefEqProofs only [varE_ev, cE_ev, argsE_nil, argsE_cons, aK1_ok, aK2_ok, tupE_ev, tupK_ok, lstE_ev, lstK_ok, dctE_ev, newL_t, newL_f, newD_t, newD_f, binE_ev, binK1_ok, binK2_ok, idxE_ev, idxK1_ok, idxK2_ok, cmpE_ev, cmpK1_ok, cmpK2_ok, optV_s, optB_s, testB_ev, testK_ok, truE_ev, truK_ok, truO_s, notT_ev, notK_ok, andT_ev, andK_t, andK_f, orT_ev, orK_t, orK_f, andE_ev, andV1_ok, andV2_t, andV2_f, orE_ev, orV1_ok, orV2_t, orV2_f, notE_ev, notV1_ok, notV2_s, negE_ev, negK_ok, ifE_ev, ifV_t, ifV_f, chainE_ev, chK1_ok, chK2_ok, chK3_t, chK3_f, chK4_ok, partE_ev, partK_ok, noE_ev, sliceE_ev, slK1_ok, slK2_ok, slK3_ok, callE_ev, callK_ok, biE_ev, biK_ok, appE_ev, apK2_ok, getE_ev, geK2_ok, get2E_ev, gfK2_ok, gfK3_ok, geO_ok, asgN_ev, asgK_ok, asgT_ev, asgTK_ok, asgO_s, putE_ev, putK1_ok, putK2_ok, putK3_ok, putK4_ok, retE_ev, retK_ok, retN_ev, exprS_ev, exprK_ok, passS_ev, breakS_ev, contS_ev, ifS_ev, ifK_t, ifK_f, blkS_nil, blkS_cons, blkK_n, blkK_r, blkK_b, blkK_c, finK_r, finK_n, stT_nm, stT_tp, stTs_nil, stTs_cons, stO_s, Ev.add_int, Ev.sub_int, mul_intE, div_int, mod_intE, lt_intE, gt_intE, le_intE, ge_intE, eq_intE, ne_intE, eq_strE, ne_strE, eq_blE, ne_blE, is_nonE, is_blE, isnot_nonE, idx_lst, idx_tup, idx_refI, idx_refS, idx_dctI, idx_dctS, setL_lst, setL_str, ix4_0, ix4_1, ix4_2, ix4_3, fin_f, List.map, List.replicate, List.length_cons, List.length_nil, List.nil_append, List.cons_append, List.getElem?_cons_zero, List.getElem?_cons_succ, List.set_cons_zero, List.set_cons_succ, if_true, if_false, decide_true, decide_false, Bool.not_true, Bool.not_false, ite_true, ite_false, Ev.bi_len, lenO_s, bi_int, bi_intb, bi_abs, bi_min, bi_max, bi_gcd, bi_str, tr_bl, tr_int, Nat.sub_self, Nat.zero_add, Nat.reduceAdd, Nat.reduceSub, atI_0, atI_1, atI_2, atI_3, atI_4, Int.reduceNeg, Ev.pow_int, and_self, Bool.false_eq_true, reduceCtorEq, Option.bind_some, Option.bind_none, id_eq, Int.le_refl, Int.lt_irrefl, Int.reduceEq, Int.reduceNe, Int.reduceLT, Int.reduceLE, Int.reducePow, Int.reduceToNat, Int.reduceAbs, Nat.reducePow, Nat.reduceLT, Nat.reduceLeDiff, Nat.reduceEqDiff, Nat.reduceMul, hvN.len, pos, e1, e2, e3, e4, e5, e6, e7, hvM.at hq, get_last, set_last, sv, apK1_ok gl]
    · rcases List.mem_append.mp hu with h | h
      · exact hg u h
      · have : u = .lst (((a.take n) ++ [w + q] ++ a.drop (n + 1)).map fr) := by simpa using h
        subst this
        refine ⟨_, Row.lst _, by simp; omega, fun z hz => ?_⟩
        rcases List.mem_append.mp hz with h | h
        · rcases List.mem_append.mp h with h | h
          · exact (ha z (List.mem_of_mem_take h)).mono (by omega)
          · have : z = w + q := by simpa using h
            subst this
            exact (sz_add (ha.at hq) sq).mono (by omega)
        · exact (ha z (List.mem_of_mem_drop h)).mono (by omega)
theorem papers_eq (hv : Row (p.lo :: X) v a) (ha : AllSz m a) (hl : a.length ≤ 100) (hm : m ≤ 400) (hp : PlOk (b + 4 + 3 * a.length) p) :
    ∃ p' Y r vs, evCall (tabOf ds) (k + 6) "_law_papers" [.ref 0, v] (p.lo :: X) = .ok r (p'.lo :: (X ++ Y)) ∧ PlOk b p' ∧ r ≠ .ref 0 ∧ seqOf (p'.lo :: (X ++ Y)) r = some vs ∧ vs.length ≤ 8 ∧ ∀ u ∈ vs, Good (p'.lo :: (X ++ Y)) (a.length + 1) (m + 24) u := by
  have s2 : ∀ {q : Rat}, Sz m q → Sz (m + 24) (2 * q) := fun h => (sz_mul (show Sz 2 2 from ⟨by decide +kernel, by decide +kernel⟩) h).mono (by omega)
  have c1 : c_law_papers_1 (evCall (tabOf ds) (k + 5)) [some (.ref 0), some v, none, none, none, none, none] (p.lo :: X) = .ok (.lst ((a.map (2 * ·)).map fr)) (p.lo :: X) := by
    unfold c_law_papers_1
    rw [lc_name (v := v) (xs := a.map fr) (zs := (a.map (2 * ·)).map fr) rfl hv.1 (by simp) (small_line (by rw [List.length_map]; omega))]
    · rfl
    · intro i x z hx hz
      obtain ⟨q, hq, rfl⟩ := row_get hx
      obtain ⟨u, hu, rfl⟩ := row_get hz
      rw [List.getElem?_map, hq] at hu
      cases hu
      have e := lmul_eq (a := 2) h_law_gcd h_law_ratio h_law_mul (k + 2) (p.lo :: X) (show Sz 2 2 from ⟨by decide +kernel, by decide +kernel⟩) (ha.at hq) (by omega)
      rw [show fr 2 = .tup [.int 2, .int 1] from fr_int 2] at e
      exact ⟨[some (.ref 0), some v, none, none, none, none, some (fr q)], rfl, rfl, by simp -implicitDefEqProofs only [varE_ev, cE_ev, argsE_nil, argsE_cons, aK1_ok, aK2_ok, tupE_ev, tupK_ok, lstE_ev, lstK_ok, dctE_ev, newL_t, newL_f, newD_t, newD_f, binE_ev, binK1_ok, binK2_ok, idxE_ev, idxK1_ok, idxK2_ok, cmpE_ev, cmpK1_ok, cmpK2_ok, optV_s, optB_s, testB_ev, testK_ok, truE_ev, truK_ok, truO_s, notT_ev, notK_ok, andT_ev, andK_t, andK_f, orT_ev, orK_t, orK_f, andE_ev, andV1_ok, andV2_t, andV2_f, orE_ev, orV1_ok, orV2_t, orV2_f, notE_ev, notV1_ok, notV2_s, negE_ev, negK_ok, ifE_ev, ifV_t, ifV_f, chainE_ev, chK1_ok, chK2_ok, chK3_t, chK3_f, chK4_ok, partE_ev, partK_ok, noE_ev, sliceE_ev, slK1_ok, slK2_ok, slK3_ok, callE_ev, callK_ok, biE_ev, biK_ok, appE_ev, apK2_ok, getE_ev, geK2_ok, get2E_ev, gfK2_ok, gfK3_ok, geO_ok, asgN_ev, asgK_ok, asgT_ev, asgTK_ok, asgO_s, putE_ev, putK1_ok, putK2_ok, putK3_ok, putK4_ok, retE_ev, retK_ok, retN_ev, exprS_ev, exprK_ok, passS_ev, breakS_ev, contS_ev, ifS_ev, ifK_t, ifK_f, blkS_nil, blkS_cons, blkK_n, blkK_r, blkK_b, blkK_c, finK_r, finK_n, stT_nm, stT_tp, stTs_nil, stTs_cons, stO_s, Ev.add_int, Ev.sub_int, mul_intE, div_int, mod_intE, lt_intE, gt_intE, le_intE, ge_intE, eq_intE, ne_intE, eq_strE, ne_strE, eq_blE, ne_blE, is_nonE, is_blE, isnot_nonE, idx_lst, idx_tup, idx_refI, idx_refS, idx_dctI, idx_dctS, setL_lst, setL_str, ix4_0, ix4_1, ix4_2, ix4_3, fin_f, List.map, List.replicate, List.length_cons, List.length_nil, List.nil_append, List.cons_append, List.getElem?_cons_zero, List.getElem?_cons_succ, List.set_cons_zero, List.set_cons_succ, if_true, if_false, decide_true, decide_false, Bool.not_true, Bool.not_false, ite_true, ite_false, Ev.bi_len, lenO_s, bi_int, bi_intb, bi_abs, bi_min, bi_max, bi_gcd, bi_str, tr_bl, tr_int, Nat.sub_self, Nat.zero_add, Nat.reduceAdd, Nat.reduceSub, atI_0, atI_1, atI_2, atI_3, atI_4, Int.reduceNeg, Ev.pow_int, and_self, Bool.false_eq_true, reduceCtorEq, Option.bind_some, Option.bind_none, id_eq, Int.le_refl, Int.lt_irrefl, Int.reduceEq, Int.reduceNe, Int.reduceLT, Int.reduceLE, Int.reducePow, Int.reduceToNat, Int.reduceAbs, Nat.reducePow, Nat.reduceLT, Nat.reduceLeDiff, Nat.reduceEqDiff, Nat.reduceMul, e]⟩
  have c2 : ∀ (L : List LO) (y : Option LV), Row L v a → c_law_papers_2 (evCall (tabOf ds) (k + 5)) [some (.ref 0), some v, y, none, none, none, none] L = .ok (.lst ((List.replicate a.length (0 : Rat)).map fr)) L := by
    intro L y hv
    unfold c_law_papers_2
    rw [lc_name (v := v) (xs := a.map fr) (zs := (List.replicate a.length (0 : Rat)).map fr) rfl hv.1 (by simp) (small_line (by rw [List.length_map]; omega))]
    · rfl
    · intro i x z hx hz
      obtain ⟨u, hu, rfl⟩ := row_get hz
      have : u = 0 := List.eq_of_mem_replicate (List.mem_of_getElem? hu)
      subst this
      exact ⟨[some (.ref 0), some v, y, none, none, none, some x], rfl, rfl, by simp -implicitDefEqProofs only [varE_ev, cE_ev, argsE_nil, argsE_cons, aK1_ok, aK2_ok, tupE_ev, tupK_ok, lstE_ev, lstK_ok, dctE_ev, newL_t, newL_f, newD_t, newD_f, binE_ev, binK1_ok, binK2_ok, idxE_ev, idxK1_ok, idxK2_ok, cmpE_ev, cmpK1_ok, cmpK2_ok, optV_s, optB_s, testB_ev, testK_ok, truE_ev, truK_ok, truO_s, notT_ev, notK_ok, andT_ev, andK_t, andK_f, orT_ev, orK_t, orK_f, andE_ev, andV1_ok, andV2_t, andV2_f, orE_ev, orV1_ok, orV2_t, orV2_f, notE_ev, notV1_ok, notV2_s, negE_ev, negK_ok, ifE_ev, ifV_t, ifV_f, chainE_ev, chK1_ok, chK2_ok, chK3_t, chK3_f, chK4_ok, partE_ev, partK_ok, noE_ev, sliceE_ev, slK1_ok, slK2_ok, slK3_ok, callE_ev, callK_ok, biE_ev, biK_ok, appE_ev, apK2_ok, getE_ev, geK2_ok, get2E_ev, gfK2_ok, gfK3_ok, geO_ok, asgN_ev, asgK_ok, asgT_ev, asgTK_ok, asgO_s, putE_ev, putK1_ok, putK2_ok, putK3_ok, putK4_ok, retE_ev, retK_ok, retN_ev, exprS_ev, exprK_ok, passS_ev, breakS_ev, contS_ev, ifS_ev, ifK_t, ifK_f, blkS_nil, blkS_cons, blkK_n, blkK_r, blkK_b, blkK_c, finK_r, finK_n, stT_nm, stT_tp, stTs_nil, stTs_cons, stO_s, Ev.add_int, Ev.sub_int, mul_intE, div_int, mod_intE, lt_intE, gt_intE, le_intE, ge_intE, eq_intE, ne_intE, eq_strE, ne_strE, eq_blE, ne_blE, is_nonE, is_blE, isnot_nonE, idx_lst, idx_tup, idx_refI, idx_refS, idx_dctI, idx_dctS, setL_lst, setL_str, ix4_0, ix4_1, ix4_2, ix4_3, fin_f, List.map, List.replicate, List.length_cons, List.length_nil, List.nil_append, List.cons_append, List.getElem?_cons_zero, List.getElem?_cons_succ, List.set_cons_zero, List.set_cons_succ, if_true, if_false, decide_true, decide_false, Bool.not_true, Bool.not_false, ite_true, ite_false, Ev.bi_len, lenO_s, bi_int, bi_intb, bi_abs, bi_min, bi_max, bi_gcd, bi_str, tr_bl, tr_int, Nat.sub_self, Nat.zero_add, Nat.reduceAdd, Nat.reduceSub, atI_0, atI_1, atI_2, atI_3, atI_4, Int.reduceNeg, Ev.pow_int, and_self, Bool.false_eq_true, reduceCtorEq, Option.bind_some, Option.bind_none, id_eq, Int.le_refl, Int.lt_irrefl, Int.reduceEq, Int.reduceNe, Int.reduceLT, Int.reduceLE, Int.reducePow, Int.reduceToNat, Int.reduceAbs, Nat.reducePow, Nat.reduceLT, Nat.reduceLeDiff, Nat.reduceEqDiff, Nat.reduceMul, fr_0]⟩
  have sl : 1000 < sizeLine := by decide
  have e1 := bi_list_s (mu := false) (items_seq hv.1)
  have e2 := add_seq (mu := false) (L := p.lo :: X) (v := v) (w := .lst [.tup [.int 0, .int 1]]) (by simp; omega) hv.1 seqOf_lst
  have e3 := slice_seq (mu := false) (lo := none) (hi := some (-1)) hv.1
  rw [cutG_front, List.length_map, ← List.map_take] at e3
  -- the first list
  generalize ho : LO.lst [.lst (a.map fr), .lst (a.map fr ++ [.tup [.int 0, .int 1]]), .lst ((a.take (a.length - 1)).map fr), .lst ((a.map (2 * ·)).map fr)] = o0 at *
  have hv1 : Row (p.lo :: (X ++ [o0])) v a := hv.keep (keep_pool _ _ _ _)
  obtain ⟨fs, p1, f1, f2, hp1, e4⟩ := row_eq h_law_mixed h_law_rest h_law_draw h_law_gcd h_law_ratio h_law_fraction h_law_row k (n := a.length) (c := b + 4) hp (by omega) (X ++ [o0])
  have c2' := c2 _ (some (.ref (X.length + 1))) hv1
  generalize hz : X ++ [o0] ++ [.lst (fs.map fr)] = Z2 at *
  have kz : ∀ o W, Keep (p.lo :: X) (o :: (Z2 ++ W)) := fun o W => by
    rw [← hz, List.append_assoc, List.append_assoc]
    exact keep_pool _ _ _ _
  have g0 : seqOf (p1.lo :: Z2) (.ref (X.length + 1)) = some [.lst (a.map fr), .lst (a.map fr ++ [.tup [.int 0, .int 1]]), .lst ((a.take (a.length - 1)).map fr), .lst ((a.map (2 * ·)).map fr)] := by
    refine seqOf_ref ?_
    rw [List.getElem?_cons_succ, ← hz, ho]
    simp
  have g1 : Row (p1.lo :: Z2) (.ref ((X ++ [o0]).length + 1)) fs := by
    refine ⟨seqOf_ref ?_, by simp⟩
    rw [List.getElem?_cons_succ, ← hz]
    simp
  have e5 := add_seq (mu := true) (L := p1.lo :: Z2) (v := .ref (X.length + 1)) (w := .lst [.lst ((List.replicate a.length (0 : Rat)).map fr), .ref ((X ++ [o0]).length + 1)]) (by simp; omega) g0 seqOf_lst
  have good : ∀ u ∈ [LV.lst (a.map fr), .lst (a.map fr ++ [.tup [.int 0, .int 1]]), .lst ((a.take (a.length - 1)).map fr), .lst ((a.map (2 * ·)).map fr)] ++ [.lst ((List.replicate a.length (0 : Rat)).map fr), .ref ((X ++ [o0]).length + 1)], Good (p1.lo :: Z2) (a.length + 1) (m + 24) u := by
    intro u hu
    simp only [List.cons_append, List.nil_append, List.mem_cons, List.not_mem_nil, or_false] at hu
    rcases hu with rfl | rfl | rfl | rfl | rfl | rfl
    · exact ⟨a, Row.lst a, by omega, ha.mono (by omega)⟩
    · refine ⟨a ++ [0], ⟨by rw [List.map_append]; show some _ = some (_ ++ [fr 0]); rw [fr_0], by simp⟩, by simp, fun z hz => ?_⟩
      rcases List.mem_append.mp hz with h | h
      · exact (ha z h).mono (by omega)
      · have : z = 0 := by simpa using h
        subst this; exact sz_zero
    · exact ⟨_, Row.lst _, by simp; omega, fun z hz => (ha z (List.mem_of_mem_take hz)).mono (by omega)⟩
    · refine ⟨_, Row.lst _, by simp, fun z hz => ?_⟩
      obtain ⟨q, hq, rfl⟩ := List.mem_map.mp hz
      exact s2 (ha q hq)
    · exact ⟨_, Row.lst _, by simp, fun z hz => by rw [List.eq_of_mem_replicate hz]; exact sz_zero⟩
    · exact ⟨fs, g1, by omega, f2.mono (by omega)⟩
  have loop : ∀ vs, vs.length ≤ 6 → (∀ u ∈ vs, Good (p1.lo :: Z2) (a.length + 1) (m + 24) u) → ∃ p' vs' z1 z2 z3, f_law_papers_1 (evCall (tabOf ds) (k + 5)) [some (.ref 0), some v, some (.ref (Z2.length + 1)), none, none, none, none] (p1.lo :: (Z2 ++ [.lst vs])) = .ok (.next, [some (.ref 0), some v, some (.ref (Z2.length + 1)), z1, z2, z3, none]) (p'.lo :: (Z2 ++ [.lst vs'])) ∧ PlOk b p' ∧ vs'.length ≤ 8 ∧ ∀ u ∈ vs', Good (p1.lo :: Z2) (a.length + 1) (m + 24) u := by
    intro vs hvs hg
    unfold f_law_papers_1
    have e0 : cE (.int 2) (evCall (tabOf ds) (k + 5)) [some (.ref 0), some v, some (.ref (Z2.length + 1)), none, none, none, none] (p1.lo :: (Z2 ++ [.lst vs])) = .ok (.int 2) (p1.lo :: (Z2 ++ [.lst vs])) := rfl
    refine for_range (P := fun r => ∃ p' vs' z1 z2 z3, r = .ok (.next, [some (.ref 0), some v, some (.ref (Z2.length + 1)), z1, z2, z3, none]) (p'.lo :: (Z2 ++ [.lst vs'])) ∧ PlOk b p' ∧ vs'.length ≤ 8 ∧ ∀ u ∈ vs', Good (p1.lo :: Z2) (a.length + 1) (m + 24) u) (j := 2)
      (fun i s L' => ∃ p' vs' z1 z2 z3, s = [some (.ref 0), some v, some (.ref (Z2.length + 1)), z1, z2, z3, none] ∧ L' = p'.lo :: (Z2 ++ [.lst vs']) ∧ PlOk (b + 2 * (2 - i)) p' ∧ vs'.length ≤ 6 + i ∧ ∀ u ∈ vs', Good (p1.lo :: Z2) (a.length + 1) (m + 24) u)
      e0 (by decide) ⟨p1, vs, none, none, none, rfl, rfl, hp1, by omega, hg⟩ (fun i s L' hi hI => ?_) (fun s L' hI => ?_)
    · obtain ⟨p', vs', z1, z2, z3, rfl, rfl, q1, q2, q3⟩ := hI
      have hi : i < 2 := hi
      obtain ⟨p2, vs2, y2, y3, e, r1, r2, r3⟩ := turn_papers (k := k) (p := p') (a := a) (m := m) (b := b + 2 * (2 - (i + 1))) (L0 := p1.lo :: Z2) (Z2 := Z2) (fun o W => hv.keep (kz o W)) ha hl hm (vs := vs') (by omega) q3 (q1.mono (by omega)) (y1 := some (.int i)) (y2 := z2) (y3 := z3)
      refine ⟨_, stT_nm, ?_⟩
      show Turn _ _ (l_law_papers_1 _ [some (.ref 0), some v, some (.ref (Z2.length + 1)), some (.int i), z2, z3, none] _)
      rw [e]
      exact .next ⟨p2, vs2, _, _, _, rfl, rfl, r1, by omega, r3⟩
    · obtain ⟨p', vs', z1, z2, z3, rfl, rfl, q1, q2, q3⟩ := hI
      exact ⟨p', vs', z1, z2, z3, rfl, q1.mono (by omega), q2, q3⟩
  obtain ⟨p', vs', z1, z2, z3, e6, hp', hlv, hgv⟩ := loop _ (by simp) good
  have hY : ∃ Y, Z2 ++ [LO.lst vs'] = X ++ Y := ⟨[o0] ++ [.lst (fs.map fr)] ++ [.lst vs'], by rw [← hz]; simp⟩
  obtain ⟨Y, hY⟩ := hY
  refine ⟨p', Y, .ref (Z2.length + 1), vs', ?_, hp', by simp, ?_, hlv, fun u hu => (hgv u hu).keep (by rw [← hY]; exact keep_pool _ _ _ _)⟩
  · rw [← hY, call_of h_law_papers]
    unfold b_law_papers
    generalize f_law_papers_1 = C1 at *
    generalize c_law_papers_1 = C2 at *
    generalize c_law_papers_2 = C3 at *
    simp only [List.cons_append, List.nil_append] at e6
    simp -implicitDefEqProofs only [varE_ev, cE_ev, argsE_nil, argsE_cons, aK1_ok, aK2_ok, tupE_ev, tupK_ok, lstE_ev, lstK_ok, dctE_ev, newL_t, newL_f, newD_t, newD_f, binE_ev, binK1_ok, binK2_ok, idxE_ev, idxK1_ok, idxK2_ok, cmpE_ev, cmpK1_ok, cmpK2_ok, optV_s, optB_s, testB_ev, testK_ok, truE_ev, truK_ok, truO_s, notT_ev, notK_ok, andT_ev, andK_t, andK_f, orT_ev, orK_t, orK_f, andE_ev, andV1_ok, andV2_t, andV2_f, orE_ev, orV1_ok, orV2_t, orV2_f, notE_ev, notV1_ok, notV2_s, negE_ev, negK_ok, ifE_ev, ifV_t, ifV_f, chainE_ev, chK1_ok, chK2_ok, chK3_t, chK3_f, chK4_ok, partE_ev, partK_ok, noE_ev, sliceE_ev, slK1_ok, slK2_ok, slK3_ok, callE_ev, callK_ok, biE_ev, biK_ok, appE_ev, apK2_ok, getE_ev, geK2_ok, get2E_ev, gfK2_ok, gfK3_ok, geO_ok, asgN_ev, asgK_ok, asgT_ev, asgTK_ok, asgO_s, putE_ev, putK1_ok, putK2_ok, putK3_ok, putK4_ok, retE_ev, retK_ok, retN_ev, exprS_ev, exprK_ok, passS_ev, breakS_ev, contS_ev, ifS_ev, ifK_t, ifK_f, blkS_nil, blkS_cons, blkK_n, blkK_r, blkK_b, blkK_c, finK_r, finK_n, stT_nm, stT_tp, stTs_nil, stTs_cons, stO_s, Ev.add_int, Ev.sub_int, mul_intE, div_int, mod_intE, lt_intE, gt_intE, le_intE, ge_intE, eq_intE, ne_intE, eq_strE, ne_strE, eq_blE, ne_blE, is_nonE, is_blE, isnot_nonE, idx_lst, idx_tup, idx_refI, idx_refS, idx_dctI, idx_dctS, setL_lst, setL_str, ix4_0, ix4_1, ix4_2, ix4_3, fin_f, List.map, List.replicate, List.length_cons, List.length_nil, List.nil_append, List.cons_append, List.getElem?_cons_zero, List.getElem?_cons_succ, List.set_cons_zero, List.set_cons_succ, if_true, if_false, decide_true, decide_false, Bool.not_true, Bool.not_false, ite_true, ite_false, Ev.bi_len, lenO_s, bi_int, bi_intb, bi_abs, bi_min, bi_max, bi_gcd, bi_str, tr_bl, tr_int, Nat.sub_self, Nat.zero_add, Nat.reduceAdd, Nat.reduceSub, atI_0, atI_1, atI_2, atI_3, atI_4, Int.reduceNeg, Ev.pow_int, and_self, Bool.false_eq_true, reduceCtorEq, Option.bind_some, Option.bind_none, id_eq, Int.le_refl, Int.lt_irrefl, Int.reduceEq, Int.reduceNe, Int.reduceLT, Int.reduceLE, Int.reducePow, Int.reduceToNat, Int.reduceAbs, Nat.reducePow, Nat.reduceLT, Nat.reduceLeDiff, Nat.reduceEqDiff, Nat.reduceMul, e1, e2, e3, c1, ho, hv1.len, c2', e4, e5, e6]
  · rw [← hY]
    refine seqOf_ref ?_
    rw [List.getElem?_cons_succ]
    exact get_last
end
end K02

set_option maxHeartbeats 4000000
namespace K02
open PySem Ev
open L2 (atI cutS ixN)
section
variable {k : Nat} {p : Pl} {X : List LO} {m b c M : Nat}
/-- u is the row r in the heap's tail Z -/
def RefRow (Z : List LO) (u : LV) (r : List Rat) : Prop := ∃ a, u = .ref (a + 1) ∧ Z[a]? = some (.lst (r.map fr))
theorem RefRow.more {Z W : List LO} {u : LV} {r : List Rat} (h : RefRow Z u r) : RefRow (Z ++ W) u r := by
  obtain ⟨a, e, h⟩ := h
  exact ⟨a, e, by rw [List.getElem?_append_left (List.getElem?_eq_some_iff.mp h).1]; exact h⟩
theorem RefRow.row {Z : List LO} {o : LO} {u : LV} {r : List Rat} (h : RefRow Z u r) : Row (o :: Z) u r := by
  obtain ⟨a, rfl, h⟩ := h
  exact ⟨seqOf_ref (by rw [List.getElem?_cons_succ]; exact h), by simp⟩
/-- rows that were drawn, each of its own -/
theorem rows_eq {s : Sl} {own : List Nat} {mu : Bool} {fc : Ev.LE} {j : Nat} (hp : PlOk (b + 3 * c * M) p) (hc : c ≤ 100) (hM : M ≤ 100)
    (he : ∀ (i : Nat) (L : List LO), ∃ s1, stT (.nm j) (.int i) (wipeL s own) = some s1 ∧ fc (evCall (tabOf ds) (k + 5)) s1 L = evCall (tabOf ds) (k + 5) "_law_row" [.ref 0, .int c] L) :
    ∃ ys rs p' Y, lcX (seqG (rangeL 0 M)) (.nm j) yesT fc own mu (evCall (tabOf ds) (k + 5)) s (p.lo :: X) = newL mu ys (p'.lo :: (X ++ Y)) ∧ PlOk b p' ∧ rs.length = M ∧ ys.length = M ∧ Rows 21 c rs ∧ ∀ (i : Nat) u r, ys[i]? = some u → rs[i]? = some r → RefRow (X ++ Y) u r := by
  obtain ⟨ys, L', e, rs, p', Y, rfl, a1, a2, a3, a4, a5⟩ := lcX_inv (xs := rangeL 0 M) (t := .nm j) (ft := yesT) (fe := fc) (cb := evCall (tabOf ds) (k + 5)) (s := s) (own := own) (mu := mu) (L := p.lo :: X)
    (fun i ys L' => ∃ (rs : List (List Rat)) (p' : Pl) (Y : List LO), L' = p'.lo :: (X ++ Y) ∧ rs.length = i ∧ ys.length = i ∧ Rows 21 c rs ∧ PlOk (b + 3 * c * (M - i)) p' ∧ ∀ (i : Nat) u r, ys[i]? = some u → rs[i]? = some r → RefRow (X ++ Y) u r)
    ⟨[], p, [], by rw [List.append_nil], rfl, rfl, ⟨nofun, nofun⟩, hp, fun i u r h => by simp at h⟩ (fun i ys L' x hx hI => by
      obtain ⟨rs, p', Y, rfl, a1, a2, a3, a4, a5⟩ := hI
      obtain ⟨hi, rfl⟩ := rangeL_get hx
      have e3 : 3 * c * (M - i) = 3 * c * (M - (i + 1)) + 3 * c := by rw [show M - i = (M - (i + 1)) + 1 by omega, Nat.mul_succ]
      obtain ⟨fs, p2, b1, b2, b3, b4⟩ := row_eq h_law_mixed h_law_rest h_law_draw h_law_gcd h_law_ratio h_law_fraction h_law_row k (n := c) (c := b + 3 * c * (M - (i + 1))) (a4.mono (by omega)) (by omega) (X ++ Y)
      rw [Int.zero_add]
      obtain ⟨s1, h1, h2⟩ := he i (p'.lo :: (X ++ Y))
      refine ⟨s1, h1, true, _, rfl, _, _, h2.trans b4, rs ++ [fs], p2, Y ++ [.lst (fs.map fr)], by rw [List.append_assoc], by rw [List.length_append, a1]; rfl, by rw [List.length_append, a2]; rfl, ⟨fun r hr => ?_, fun r hr => ?_⟩, b3, fun i' u r hu hr => ?_⟩
      · rcases List.mem_append.mp hr with h | h
        · exact a3.len r h
        · have : r = fs := by simpa using h
          rw [this, b1]
      · rcases List.mem_append.mp hr with h | h
        · exact a3.sz r h
        · have : r = fs := by simpa using h
          rw [this]; exact b2
      · rw [← List.append_assoc]
        by_cases hi' : i' < i
        · rw [List.getElem?_append_left (by omega)] at hu hr
          exact (a5 i' u r hu hr).more
        · have hlt := (List.getElem?_eq_some_iff.mp hu).1
          rw [List.length_append, List.length_cons, List.length_nil] at hlt
          have : i' = i := by omega
          subst this
          rw [List.getElem?_append_right (by omega), a2, Nat.sub_self] at hu
          rw [List.getElem?_append_right (by omega), a1, Nat.sub_self] at hr
          cases hu; cases hr
          exact ⟨_, rfl, get_last⟩) (fun ys L' hI => by
      obtain ⟨rs, p', Y, rfl, a1, a2, _⟩ := hI
      rw [a2, rangeL_length]
      exact small_line (by omega))
  rw [rangeL_length] at a1 a2 a4
  exact ⟨ys, rs, p', Y, e, by simpa using a4, a1, a2, a3, a5⟩
theorem mat_of {o : LO} {Z W : List LO} {ys : List LV} {rs : List (List Rat)} (h1 : ys.length = M) (h2 : rs.length = M) (h : ∀ (i : Nat) u r, ys[i]? = some u → rs[i]? = some r → RefRow Z u r) : Mat (o :: (Z ++ W)) (.lst ys) rs :=
  ⟨⟨ys, rfl, by omega, fun i u r hu hr => (h i u r hu hr).more.row⟩, fun e => by cases e⟩
theorem ixN_nat {l n : Nat} (h : n < l) : ixN l (n : Int) = some n := by
  unfold L2.ixN
  rw [if_pos (by omega), if_pos (by omega), Int.toNat_natCast]
theorem fr_c : LV.tup [.int 3, .int 5] = fr ((3 : Rat) / 5) := by
  unfold fr
  rw [show ((3 : Rat) / 5).num = 3 by decide +kernel, show ((3 : Rat) / 5).den = 5 by decide +kernel]; rfl
theorem lead_ok {x : LV} (h : x ∈ [LV.tup [.int 1, .int 1], LV.tup [.int (-2), .int 1], LV.tup [.int 3, .int 5]]) : ∃ q, x = fr q ∧ Sz 3 q ∧ q ≠ 0 := by
  simp only [List.mem_cons, List.not_mem_nil, or_false] at h
  rcases h with rfl | rfl | rfl
  · exact ⟨1, fr_1.symm, (show Sz 3 1 from ⟨by decide +kernel, by decide +kernel⟩), by decide +kernel⟩
  · exact ⟨-2, (fr_int (-2)).symm, (show Sz 3 (-2) from ⟨by decide +kernel, by decide +kernel⟩), by decide +kernel⟩
  · exact ⟨_, fr_c, (show Sz 3 ((3 : Rat) / 5) from ⟨by decide +kernel, by decide +kernel⟩), by decide +kernel⟩

theorem made_eq (hp : PlOk (b + 3 * c * M + 6 * M + 10) p) (hc : c ≤ 4) (hM : M ≤ 5) (h0 : 0 < M) :
    ∃ p' Y r w f rs right fs, evCall (tabOf ds) (k + 7) "_law_no_solution_made" [.ref 0, .int c, .int M] (p.lo :: X) = .ok (.tup [r, w, f]) (p'.lo :: (X ++ Y)) ∧ PlOk b p' ∧
      Mat (p'.lo :: (X ++ Y)) r rs ∧ Row (p'.lo :: (X ++ Y)) w right ∧ Row (p'.lo :: (X ++ Y)) f fs ∧ rs.length = M ∧ right.length = M ∧ fs.length = M ∧ Rows 260 c rs ∧ AllSz 260 right ∧ AllSz 21 fs := by
  obtain ⟨ys, rs, p1, Y1, e1, hp1, a1, a2, a3, a4⟩ := rows_eq (k := k + 1) (b := b + 6 * M + 10) (X := X) (c := c) (M := M) (s := [some (.ref 0), some (.int c), some (.int M), none, none, none, none, none, none, none, none]) (own := [10]) (mu := true) (fc := callE "_law_row" [(varE 0), (varE 1)]) (j := 10) (hp.mono (by omega)) (by omega) (by omega)
    (fun i L => ⟨[some (.ref 0), some (.int c), some (.int M), none, none, none, none, none, none, none, some (.int i)], rfl, by simp -implicitDefEqProofs only [varE_ev, cE_ev, argsE_nil, argsE_cons, aK1_ok, aK2_ok, tupE_ev, tupK_ok, lstE_ev, lstK_ok, dctE_ev, newL_t, newL_f, newD_t, newD_f, binE_ev, binK1_ok, binK2_ok, idxE_ev, idxK1_ok, idxK2_ok, cmpE_ev, cmpK1_ok, cmpK2_ok, optV_s, optB_s, testB_ev, testK_ok, truE_ev, truK_ok, truO_s, notT_ev, notK_ok, andT_ev, andK_t, andK_f, orT_ev, orK_t, orK_f, andE_ev, andV1_ok, andV2_t, andV2_f, orE_ev, orV1_ok, orV2_t, orV2_f, notE_ev, notV1_ok, notV2_s, negE_ev, negK_ok, ifE_ev, ifV_t, ifV_f, chainE_ev, chK1_ok, chK2_ok, chK3_t, chK3_f, chK4_ok, partE_ev, partK_ok, noE_ev, sliceE_ev, slK1_ok, slK2_ok, slK3_ok, callE_ev, callK_ok, biE_ev, biK_ok, appE_ev, apK2_ok, getE_ev, geK2_ok, get2E_ev, gfK2_ok, gfK3_ok, geO_ok, asgN_ev, asgK_ok, asgT_ev, asgTK_ok, asgO_s, putE_ev, putK1_ok, putK2_ok, putK3_ok, putK4_ok, retE_ev, retK_ok, retN_ev, exprS_ev, exprK_ok, passS_ev, breakS_ev, contS_ev, ifS_ev, ifK_t, ifK_f, blkS_nil, blkS_cons, blkK_n, blkK_r, blkK_b, blkK_c, finK_r, finK_n, stT_nm, stT_tp, stTs_nil, stTs_cons, stO_s, Ev.add_int, Ev.sub_int, mul_intE, div_int, mod_intE, lt_intE, gt_intE, le_intE, ge_intE, eq_intE, ne_intE, eq_strE, ne_strE, eq_blE, ne_blE, is_nonE, is_blE, isnot_nonE, idx_lst, idx_tup, idx_refI, idx_refS, idx_dctI, idx_dctS, setL_lst, setL_str, ix4_0, ix4_1, ix4_2, ix4_3, fin_f, List.map, List.replicate, List.length_cons, List.length_nil, List.nil_append, List.cons_append, List.getElem?_cons_zero, List.getElem?_cons_succ, List.set_cons_zero, List.set_cons_succ, if_true, if_false, decide_true, decide_false, Bool.not_true, Bool.not_false, ite_true, ite_false, Ev.bi_len, lenO_s, bi_int, bi_intb, bi_abs, bi_min, bi_max, bi_gcd, bi_str, tr_bl, tr_int, Nat.sub_self, Nat.zero_add, Nat.reduceAdd, Nat.reduceSub, atI_0, atI_1, atI_2, atI_3, atI_4, Int.reduceNeg, Ev.pow_int, and_self, Bool.false_eq_true, reduceCtorEq, Option.bind_some, Option.bind_none, id_eq, Int.le_refl, Int.lt_irrefl, Int.reduceEq, Int.reduceNe, Int.reduceLT, Int.reduceLE, Int.reducePow, Int.reduceToNat, Int.reduceAbs, Nat.reducePow, Nat.reduceLT, Nat.reduceLeDiff, Nat.reduceEqDiff, Nat.reduceMul]⟩)
  have c1 : c_law_no_solution_made_1 (evCall (tabOf ds) (k + 6)) [some (.ref 0), some (.int c), some (.int M), none, none, none, none, none, none, none, none] (p.lo :: X) = .ok (.ref ((X ++ Y1).length + 1)) (p1.lo :: ((X ++ Y1) ++ [.lst ys])) := by
    unfold c_law_no_solution_made_1
    have e0 : varE 2 (evCall (tabOf ds) (k + 6)) [some (.ref 0), some (.int c), some (.int M), none, none, none, none, none, none, none, none] (p.lo :: X) = .ok (.int M) (p.lo :: X) := by simp -implicitDefEqProofs only [varE_ev, cE_ev, argsE_nil, argsE_cons, aK1_ok, aK2_ok, tupE_ev, tupK_ok, lstE_ev, lstK_ok, dctE_ev, newL_t, newL_f, newD_t, newD_f, binE_ev, binK1_ok, binK2_ok, idxE_ev, idxK1_ok, idxK2_ok, cmpE_ev, cmpK1_ok, cmpK2_ok, optV_s, optB_s, testB_ev, testK_ok, truE_ev, truK_ok, truO_s, notT_ev, notK_ok, andT_ev, andK_t, andK_f, orT_ev, orK_t, orK_f, andE_ev, andV1_ok, andV2_t, andV2_f, orE_ev, orV1_ok, orV2_t, orV2_f, notE_ev, notV1_ok, notV2_s, negE_ev, negK_ok, ifE_ev, ifV_t, ifV_f, chainE_ev, chK1_ok, chK2_ok, chK3_t, chK3_f, chK4_ok, partE_ev, partK_ok, noE_ev, sliceE_ev, slK1_ok, slK2_ok, slK3_ok, callE_ev, callK_ok, biE_ev, biK_ok, appE_ev, apK2_ok, getE_ev, geK2_ok, get2E_ev, gfK2_ok, gfK3_ok, geO_ok, asgN_ev, asgK_ok, asgT_ev, asgTK_ok, asgO_s, putE_ev, putK1_ok, putK2_ok, putK3_ok, putK4_ok, retE_ev, retK_ok, retN_ev, exprS_ev, exprK_ok, passS_ev, breakS_ev, contS_ev, ifS_ev, ifK_t, ifK_f, blkS_nil, blkS_cons, blkK_n, blkK_r, blkK_b, blkK_c, finK_r, finK_n, stT_nm, stT_tp, stTs_nil, stTs_cons, stO_s, Ev.add_int, Ev.sub_int, mul_intE, div_int, mod_intE, lt_intE, gt_intE, le_intE, ge_intE, eq_intE, ne_intE, eq_strE, ne_strE, eq_blE, ne_blE, is_nonE, is_blE, isnot_nonE, idx_lst, idx_tup, idx_refI, idx_refS, idx_dctI, idx_dctS, setL_lst, setL_str, ix4_0, ix4_1, ix4_2, ix4_3, fin_f, List.map, List.replicate, List.length_cons, List.length_nil, List.nil_append, List.cons_append, List.getElem?_cons_zero, List.getElem?_cons_succ, List.set_cons_zero, List.set_cons_succ, if_true, if_false, decide_true, decide_false, Bool.not_true, Bool.not_false, ite_true, ite_false, Ev.bi_len, lenO_s, bi_int, bi_intb, bi_abs, bi_min, bi_max, bi_gcd, bi_str, tr_bl, tr_int, Nat.sub_self, Nat.zero_add, Nat.reduceAdd, Nat.reduceSub, atI_0, atI_1, atI_2, atI_3, atI_4, Int.reduceNeg, Ev.pow_int, and_self, Bool.false_eq_true, reduceCtorEq, Option.bind_some, Option.bind_none, id_eq, Int.le_refl, Int.lt_irrefl, Int.reduceEq, Int.reduceNe, Int.reduceLT, Int.reduceLE, Int.reducePow, Int.reduceToNat, Int.reduceAbs, Nat.reducePow, Nat.reduceLT, Nat.reduceLeDiff, Nat.reduceEqDiff, Nat.reduceMul]
    rw [lcE_rng e0 (by omega) (by omega), Int.toNat_natCast, e1]
    rfl
  have hY1 : ∃ Z1, Z1 = X ++ Y1 := ⟨_, rfl⟩
  obtain ⟨Z1, hZ⟩ := hY1
  rw [← hZ] at c1 a4
  obtain ⟨fs, p2, f1, f2, hp2, e2⟩ := row_eq h_law_mixed h_law_rest h_law_draw h_law_gcd h_law_ratio h_law_fraction h_law_row (k + 1) (n := M) (c := b + 3 * M + 10) (hp1.mono (by omega)) (by omega) (Z1 ++ [.lst ys])
  simp only [List.length_append, List.length_cons, List.length_nil, List.append_assoc, List.cons_append, List.nil_append, Nat.zero_add] at e2
  obtain ⟨d, p3, d0, d1, hp3, e3⟩ := draw0 h_law_mixed h_law_rest h_law_draw (k + 3) (c := b + 3 * M + 9) (lim := M) (hp2.mono (by omega)) (by omega) (Z1 ++ [.lst ys, .lst (fs.map fr)]) (by
    have : lg (M : Int) ≤ 10 := lg_of (by omega)
    omega)
  obtain ⟨n, rfl⟩ : ∃ n : Nat, d = n := ⟨d.toNat, by omega⟩
  have hn : n < M := by omega
  obtain ⟨x, p4, hx, hp4, e4⟩ := pick_eq h_law_mixed h_law_rest h_law_draw h_law_pick (k + 2) (b := b + 3 * M + 8) (L := p3.lo :: (Z1 ++ [.lst ys, .lst (fs.map fr)])) (i := 0) (xs := [LV.tup [.int 1, .int 1], LV.tup [.int (-2), .int 1], LV.tup [.int 3, .int 5]]) rfl (hp3.mono (by omega)) (by simp) (by simp)
  obtain ⟨q, rfl, sq, q0⟩ := lead_ok hx
  have i1 : ixN (fs.map fr).length (n : Int) = some n := ixN_nat (by rw [List.length_map]; omega)
  have m1 : (fs.map fr).set n (fr q) = (fs.set n q).map fr := by rw [List.map_set]
  have fl : (fs.set n q).length = M := by rw [List.length_set]; exact f1
  have fsz : AllSz 21 (fs.set n q) := fun z hz => by
    rcases List.mem_or_eq_of_mem_set hz with h | h
    · exact f2 z h
    · rw [h]; exact sq.mono (by omega)
  have fq : (fs.set n q)[n]? = some q := by rw [List.getElem?_set_self (by omega)]
  -- the heap behind the first put
  generalize hf : fs.set n q = gs at *
  have F2 : Row (p4.lo :: (Z1 ++ [.lst ys, .lst (gs.map fr)])) (.ref (Z1.length + 1 + 1)) gs := ⟨seqOf_ref (by simp), by simp⟩
  -- the other factors
  have rsz : AllSz 21 (gs.set n 0) := fun z hz => by
    rcases List.mem_or_eq_of_mem_set hz with h | h
    · exact fsz z h
    · rw [h]; exact sz_zero
  have c2 : ∀ (y3 : Option LV), c_law_no_solution_made_2 (evCall (tabOf ds) (k + 6)) [some (.ref 0), some (.int c), some (.int M), y3, some (.ref (Z1.length + 1 + 1)), some (.int n), none, none, none, none, none] (p4.lo :: (Z1 ++ [.lst ys, .lst (gs.map fr)])) = .ok (.lst ((gs.set n 0).map fr)) (p4.lo :: (Z1 ++ [.lst ys, .lst (gs.map fr)])) := by
    intro y3
    unfold c_law_no_solution_made_2
    have e0 : varE 2 (evCall (tabOf ds) (k + 6)) [some (.ref 0), some (.int c), some (.int M), y3, some (.ref (Z1.length + 1 + 1)), some (.int n), none, none, none, none, none] (p4.lo :: (Z1 ++ [.lst ys, .lst (gs.map fr)])) = .ok (.int M) (p4.lo :: (Z1 ++ [.lst ys, .lst (gs.map fr)])) := by simp -implicitDefEqProofs only [varE_ev, cE_ev, argsE_nil, argsE_cons, aK1_ok, aK2_ok, tupE_ev, tupK_ok, lstE_ev, lstK_ok, dctE_ev, newL_t, newL_f, newD_t, newD_f, binE_ev, binK1_ok, binK2_ok, idxE_ev, idxK1_ok, idxK2_ok, cmpE_ev, cmpK1_ok, cmpK2_ok, optV_s, optB_s, testB_ev, testK_ok, truE_ev, truK_ok, truO_s, notT_ev, notK_ok, andT_ev, andK_t, andK_f, orT_ev, orK_t, orK_f, andE_ev, andV1_ok, andV2_t, andV2_f, orE_ev, orV1_ok, orV2_t, orV2_f, notE_ev, notV1_ok, notV2_s, negE_ev, negK_ok, ifE_ev, ifV_t, ifV_f, chainE_ev, chK1_ok, chK2_ok, chK3_t, chK3_f, chK4_ok, partE_ev, partK_ok, noE_ev, sliceE_ev, slK1_ok, slK2_ok, slK3_ok, callE_ev, callK_ok, biE_ev, biK_ok, appE_ev, apK2_ok, getE_ev, geK2_ok, get2E_ev, gfK2_ok, gfK3_ok, geO_ok, asgN_ev, asgK_ok, asgT_ev, asgTK_ok, asgO_s, putE_ev, putK1_ok, putK2_ok, putK3_ok, putK4_ok, retE_ev, retK_ok, retN_ev, exprS_ev, exprK_ok, passS_ev, breakS_ev, contS_ev, ifS_ev, ifK_t, ifK_f, blkS_nil, blkS_cons, blkK_n, blkK_r, blkK_b, blkK_c, finK_r, finK_n, stT_nm, stT_tp, stTs_nil, stTs_cons, stO_s, Ev.add_int, Ev.sub_int, mul_intE, div_int, mod_intE, lt_intE, gt_intE, le_intE, ge_intE, eq_intE, ne_intE, eq_strE, ne_strE, eq_blE, ne_blE, is_nonE, is_blE, isnot_nonE, idx_lst, idx_tup, idx_refI, idx_refS, idx_dctI, idx_dctS, setL_lst, setL_str, ix4_0, ix4_1, ix4_2, ix4_3, fin_f, List.map, List.replicate, List.length_cons, List.length_nil, List.nil_append, List.cons_append, List.getElem?_cons_zero, List.getElem?_cons_succ, List.set_cons_zero, List.set_cons_succ, if_true, if_false, decide_true, decide_false, Bool.not_true, Bool.not_false, ite_true, ite_false, Ev.bi_len, lenO_s, bi_int, bi_intb, bi_abs, bi_min, bi_max, bi_gcd, bi_str, tr_bl, tr_int, Nat.sub_self, Nat.zero_add, Nat.reduceAdd, Nat.reduceSub, atI_0, atI_1, atI_2, atI_3, atI_4, Int.reduceNeg, Ev.pow_int, and_self, Bool.false_eq_true, reduceCtorEq, Option.bind_some, Option.bind_none, id_eq, Int.le_refl, Int.lt_irrefl, Int.reduceEq, Int.reduceNe, Int.reduceLT, Int.reduceLE, Int.reducePow, Int.reduceToNat, Int.reduceAbs, Nat.reducePow, Nat.reduceLT, Nat.reduceLeDiff, Nat.reduceEqDiff, Nat.reduceMul]
    rw [lc_rng (zs := (gs.set n 0).map fr) e0 (by simp [fl]) (small_line (by omega))]
    · rfl
    · intro i z hi hz
      obtain ⟨u, hu, rfl⟩ := row_get hz
      refine ⟨[some (.ref 0), some (.int c), some (.int M), y3, some (.ref (Z1.length + 1 + 1)), some (.int n), none, none, none, none, some (.int i)], rfl, rfl, ?_⟩
      by_cases hin : n = i
      · subst hin
        rw [List.getElem?_set_self (by omega)] at hu
        cases hu
        simp -implicitDefEqProofs only [varE_ev, cE_ev, argsE_nil, argsE_cons, aK1_ok, aK2_ok, tupE_ev, tupK_ok, lstE_ev, lstK_ok, dctE_ev, newL_t, newL_f, newD_t, newD_f, binE_ev, binK1_ok, binK2_ok, idxE_ev, idxK1_ok, idxK2_ok, cmpE_ev, cmpK1_ok, cmpK2_ok, optV_s, optB_s, testB_ev, testK_ok, truE_ev, truK_ok, truO_s, notT_ev, notK_ok, andT_ev, andK_t, andK_f, orT_ev, orK_t, orK_f, andE_ev, andV1_ok, andV2_t, andV2_f, orE_ev, orV1_ok, orV2_t, orV2_f, notE_ev, notV1_ok, notV2_s, negE_ev, negK_ok, ifE_ev, ifV_t, ifV_f, chainE_ev, chK1_ok, chK2_ok, chK3_t, chK3_f, chK4_ok, partE_ev, partK_ok, noE_ev, sliceE_ev, slK1_ok, slK2_ok, slK3_ok, callE_ev, callK_ok, biE_ev, biK_ok, appE_ev, apK2_ok, getE_ev, geK2_ok, get2E_ev, gfK2_ok, gfK3_ok, geO_ok, asgN_ev, asgK_ok, asgT_ev, asgTK_ok, asgO_s, putE_ev, putK1_ok, putK2_ok, putK3_ok, putK4_ok, retE_ev, retK_ok, retN_ev, exprS_ev, exprK_ok, passS_ev, breakS_ev, contS_ev, ifS_ev, ifK_t, ifK_f, blkS_nil, blkS_cons, blkK_n, blkK_r, blkK_b, blkK_c, finK_r, finK_n, stT_nm, stT_tp, stTs_nil, stTs_cons, stO_s, Ev.add_int, Ev.sub_int, mul_intE, div_int, mod_intE, lt_intE, gt_intE, le_intE, ge_intE, eq_intE, ne_intE, eq_strE, ne_strE, eq_blE, ne_blE, is_nonE, is_blE, isnot_nonE, idx_lst, idx_tup, idx_refI, idx_refS, idx_dctI, idx_dctS, setL_lst, setL_str, ix4_0, ix4_1, ix4_2, ix4_3, fin_f, List.map, List.replicate, List.length_cons, List.length_nil, List.nil_append, List.cons_append, List.getElem?_cons_zero, List.getElem?_cons_succ, List.set_cons_zero, List.set_cons_succ, if_true, if_false, decide_true, decide_false, Bool.not_true, Bool.not_false, ite_true, ite_false, Ev.bi_len, lenO_s, bi_int, bi_intb, bi_abs, bi_min, bi_max, bi_gcd, bi_str, tr_bl, tr_int, Nat.sub_self, Nat.zero_add, Nat.reduceAdd, Nat.reduceSub, atI_0, atI_1, atI_2, atI_3, atI_4, Int.reduceNeg, Ev.pow_int, and_self, Bool.false_eq_true, reduceCtorEq, Option.bind_some, Option.bind_none, id_eq, Int.le_refl, Int.lt_irrefl, Int.reduceEq, Int.reduceNe, Int.reduceLT, Int.reduceLE, Int.reducePow, Int.reduceToNat, Int.reduceAbs, Nat.reducePow, Nat.reduceLT, Nat.reduceLeDiff, Nat.reduceEqDiff, Nat.reduceMul, fr_0]
      · rw [List.getElem?_set_ne hin] at hu
        have : ¬ (i : Int) = (n : Int) := by omega
        have e := F2.at hu
        generalize hH : p4.lo :: (Z1 ++ [LO.lst ys, LO.lst (gs.map fr)]) = H at *
        simp -implicitDefEqProofs only [varE_ev, cE_ev, argsE_nil, argsE_cons, aK1_ok, aK2_ok, tupE_ev, tupK_ok, lstE_ev, lstK_ok, dctE_ev, newL_t, newL_f, newD_t, newD_f, binE_ev, binK1_ok, binK2_ok, idxE_ev, idxK1_ok, idxK2_ok, cmpE_ev, cmpK1_ok, cmpK2_ok, optV_s, optB_s, testB_ev, testK_ok, truE_ev, truK_ok, truO_s, notT_ev, notK_ok, andT_ev, andK_t, andK_f, orT_ev, orK_t, orK_f, andE_ev, andV1_ok, andV2_t, andV2_f, orE_ev, orV1_ok, orV2_t, orV2_f, notE_ev, notV1_ok, notV2_s, negE_ev, negK_ok, ifE_ev, ifV_t, ifV_f, chainE_ev, chK1_ok, chK2_ok, chK3_t, chK3_f, chK4_ok, partE_ev, partK_ok, noE_ev, sliceE_ev, slK1_ok, slK2_ok, slK3_ok, callE_ev, callK_ok, biE_ev, biK_ok, appE_ev, apK2_ok, getE_ev, geK2_ok, get2E_ev, gfK2_ok, gfK3_ok, geO_ok, asgN_ev, asgK_ok, asgT_ev, asgTK_ok, asgO_s, putE_ev, putK1_ok, putK2_ok, putK3_ok, putK4_ok, retE_ev, retK_ok, retN_ev, exprS_ev, exprK_ok, passS_ev, breakS_ev, contS_ev, ifS_ev, ifK_t, ifK_f, blkS_nil, blkS_cons, blkK_n, blkK_r, blkK_b, blkK_c, finK_r, finK_n, stT_nm, stT_tp, stTs_nil, stTs_cons, stO_s, Ev.add_int, Ev.sub_int, mul_intE, div_int, mod_intE, lt_intE, gt_intE, le_intE, ge_intE, eq_intE, ne_intE, eq_strE, ne_strE, eq_blE, ne_blE, is_nonE, is_blE, isnot_nonE, idx_lst, idx_tup, idx_refI, idx_refS, idx_dctI, idx_dctS, setL_lst, setL_str, ix4_0, ix4_1, ix4_2, ix4_3, fin_f, List.map, List.replicate, List.length_cons, List.length_nil, List.nil_append, List.cons_append, List.getElem?_cons_zero, List.getElem?_cons_succ, List.set_cons_zero, List.set_cons_succ, if_true, if_false, decide_true, decide_false, Bool.not_true, Bool.not_false, ite_true, ite_false, Ev.bi_len, lenO_s, bi_int, bi_intb, bi_abs, bi_min, bi_max, bi_gcd, bi_str, tr_bl, tr_int, Nat.sub_self, Nat.zero_add, Nat.reduceAdd, Nat.reduceSub, atI_0, atI_1, atI_2, atI_3, atI_4, Int.reduceNeg, Ev.pow_int, and_self, Bool.false_eq_true, reduceCtorEq, Option.bind_some, Option.bind_none, id_eq, Int.le_refl, Int.lt_irrefl, Int.reduceEq, Int.reduceNe, Int.reduceLT, Int.reduceLE, Int.reducePow, Int.reduceToNat, Int.reduceAbs, Nat.reducePow, Nat.reduceLT, Nat.reduceLeDiff, Nat.reduceEqDiff, Nat.reduceMul, this, e]
  have c3 : ∀ (L : List LO) (y3 y4 y5 y6 y7 : Option LV), c_law_no_solution_made_3 (evCall (tabOf ds) (k + 6)) [some (.ref 0), some (.int c), some (.int M), y3, y4, y5, y6, y7, none, none, none] L = .ok (.lst ((List.replicate c (0 : Rat)).map fr)) L := by
    intro L y3 y4 y5 y6 y7
    unfold c_law_no_solution_made_3
    have e0 : varE 1 (evCall (tabOf ds) (k + 6)) [some (.ref 0), some (.int c), some (.int M), y3, y4, y5, y6, y7, none, none, none] L = .ok (.int c) L := by simp -implicitDefEqProofs only [varE_ev, cE_ev, argsE_nil, argsE_cons, aK1_ok, aK2_ok, tupE_ev, tupK_ok, lstE_ev, lstK_ok, dctE_ev, newL_t, newL_f, newD_t, newD_f, binE_ev, binK1_ok, binK2_ok, idxE_ev, idxK1_ok, idxK2_ok, cmpE_ev, cmpK1_ok, cmpK2_ok, optV_s, optB_s, testB_ev, testK_ok, truE_ev, truK_ok, truO_s, notT_ev, notK_ok, andT_ev, andK_t, andK_f, orT_ev, orK_t, orK_f, andE_ev, andV1_ok, andV2_t, andV2_f, orE_ev, orV1_ok, orV2_t, orV2_f, notE_ev, notV1_ok, notV2_s, negE_ev, negK_ok, ifE_ev, ifV_t, ifV_f, chainE_ev, chK1_ok, chK2_ok, chK3_t, chK3_f, chK4_ok, partE_ev, partK_ok, noE_ev, sliceE_ev, slK1_ok, slK2_ok, slK3_ok, callE_ev, callK_ok, biE_ev, biK_ok, appE_ev, apK2_ok, getE_ev, geK2_ok, get2E_ev, gfK2_ok, gfK3_ok, geO_ok, asgN_ev, asgK_ok, asgT_ev, asgTK_ok, asgO_s, putE_ev, putK1_ok, putK2_ok, putK3_ok, putK4_ok, retE_ev, retK_ok, retN_ev, exprS_ev, exprK_ok, passS_ev, breakS_ev, contS_ev, ifS_ev, ifK_t, ifK_f, blkS_nil, blkS_cons, blkK_n, blkK_r, blkK_b, blkK_c, finK_r, finK_n, stT_nm, stT_tp, stTs_nil, stTs_cons, stO_s, Ev.add_int, Ev.sub_int, mul_intE, div_int, mod_intE, lt_intE, gt_intE, le_intE, ge_intE, eq_intE, ne_intE, eq_strE, ne_strE, eq_blE, ne_blE, is_nonE, is_blE, isnot_nonE, idx_lst, idx_tup, idx_refI, idx_refS, idx_dctI, idx_dctS, setL_lst, setL_str, ix4_0, ix4_1, ix4_2, ix4_3, fin_f, List.map, List.replicate, List.length_cons, List.length_nil, List.nil_append, List.cons_append, List.getElem?_cons_zero, List.getElem?_cons_succ, List.set_cons_zero, List.set_cons_succ, if_true, if_false, decide_true, decide_false, Bool.not_true, Bool.not_false, ite_true, ite_false, Ev.bi_len, lenO_s, bi_int, bi_intb, bi_abs, bi_min, bi_max, bi_gcd, bi_str, tr_bl, tr_int, Nat.sub_self, Nat.zero_add, Nat.reduceAdd, Nat.reduceSub, atI_0, atI_1, atI_2, atI_3, atI_4, Int.reduceNeg, Ev.pow_int, and_self, Bool.false_eq_true, reduceCtorEq, Option.bind_some, Option.bind_none, id_eq, Int.le_refl, Int.lt_irrefl, Int.reduceEq, Int.reduceNe, Int.reduceLT, Int.reduceLE, Int.reducePow, Int.reduceToNat, Int.reduceAbs, Nat.reducePow, Nat.reduceLT, Nat.reduceLeDiff, Nat.reduceEqDiff, Nat.reduceMul]
    rw [lc_rng (zs := (List.replicate c (0 : Rat)).map fr) e0 (by simp) (small_line (by omega))]
    · rfl
    · intro i z hi hz
      obtain ⟨u, hu, rfl⟩ := row_get hz
      have : u = 0 := List.eq_of_mem_replicate (List.mem_of_getElem? hu)
      subst this
      exact ⟨[some (.ref 0), some (.int c), some (.int M), y3, y4, y5, y6, y7, none, none, some (.int i)], rfl, rfl, by simp -implicitDefEqProofs only [varE_ev, cE_ev, argsE_nil, argsE_cons, aK1_ok, aK2_ok, tupE_ev, tupK_ok, lstE_ev, lstK_ok, dctE_ev, newL_t, newL_f, newD_t, newD_f, binE_ev, binK1_ok, binK2_ok, idxE_ev, idxK1_ok, idxK2_ok, cmpE_ev, cmpK1_ok, cmpK2_ok, optV_s, optB_s, testB_ev, testK_ok, truE_ev, truK_ok, truO_s, notT_ev, notK_ok, andT_ev, andK_t, andK_f, orT_ev, orK_t, orK_f, andE_ev, andV1_ok, andV2_t, andV2_f, orE_ev, orV1_ok, orV2_t, orV2_f, notE_ev, notV1_ok, notV2_s, negE_ev, negK_ok, ifE_ev, ifV_t, ifV_f, chainE_ev, chK1_ok, chK2_ok, chK3_t, chK3_f, chK4_ok, partE_ev, partK_ok, noE_ev, sliceE_ev, slK1_ok, slK2_ok, slK3_ok, callE_ev, callK_ok, biE_ev, biK_ok, appE_ev, apK2_ok, getE_ev, geK2_ok, get2E_ev, gfK2_ok, gfK3_ok, geO_ok, asgN_ev, asgK_ok, asgT_ev, asgTK_ok, asgO_s, putE_ev, putK1_ok, putK2_ok, putK3_ok, putK4_ok, retE_ev, retK_ok, retN_ev, exprS_ev, exprK_ok, passS_ev, breakS_ev, contS_ev, ifS_ev, ifK_t, ifK_f, blkS_nil, blkS_cons, blkK_n, blkK_r, blkK_b, blkK_c, finK_r, finK_n, stT_nm, stT_tp, stTs_nil, stTs_cons, stO_s, Ev.add_int, Ev.sub_int, mul_intE, div_int, mod_intE, lt_intE, gt_intE, le_intE, ge_intE, eq_intE, ne_intE, eq_strE, ne_strE, eq_blE, ne_blE, is_nonE, is_blE, isnot_nonE, idx_lst, idx_tup, idx_refI, idx_refS, idx_dctI, idx_dctS, setL_lst, setL_str, ix4_0, ix4_1, ix4_2, ix4_3, fin_f, List.map, List.replicate, List.length_cons, List.length_nil, List.nil_append, List.cons_append, List.getElem?_cons_zero, List.getElem?_cons_succ, List.set_cons_zero, List.set_cons_succ, if_true, if_false, decide_true, decide_false, Bool.not_true, Bool.not_false, ite_true, ite_false, Ev.bi_len, lenO_s, bi_int, bi_intb, bi_abs, bi_min, bi_max, bi_gcd, bi_str, tr_bl, tr_int, Nat.sub_self, Nat.zero_add, Nat.reduceAdd, Nat.reduceSub, atI_0, atI_1, atI_2, atI_3, atI_4, Int.reduceNeg, Ev.pow_int, and_self, Bool.false_eq_true, reduceCtorEq, Option.bind_some, Option.bind_none, id_eq, Int.le_refl, Int.lt_irrefl, Int.reduceEq, Int.reduceNe, Int.reduceLT, Int.reduceLE, Int.reducePow, Int.reduceToNat, Int.reduceAbs, Nat.reducePow, Nat.reduceLT, Nat.reduceLeDiff, Nat.reduceEqDiff, Nat.reduceMul, fr_0]⟩
  have M4 : Mat (p4.lo :: (Z1 ++ [.lst ys, .lst (gs.map fr)])) (.ref (Z1.length + 1)) rs := ⟨⟨ys, seqOf_ref (by simp), by omega, fun i u r hu hr => (a4 i u r hu hr).more.row⟩, by simp⟩
  have rl : (gs.set n 0).length = rs.length := by rw [List.length_set]; omega
  have e5 := lcombined_eq (k := k + 1) h_law_gcd h_law_ratio h_law_sub h_law_mul h_law_minus h_law_combined M4 (Row.lst (gs.set n 0)) rl a3 rsz (by omega) (by omega) (by omega)
  have e6 := ldiv_eq h_law_gcd h_law_ratio h_law_div (k + 3) (p4.lo :: (Z1 ++ [.lst ys, .lst (gs.map fr)])) (show Sz 0 1 from ⟨by decide +kernel, by decide +kernel⟩) sq (by omega) q0
  rw [fr_1] at e6
  obtain ⟨cl, csz⟩ := comb_ok a3 rsz rl rs.length (Nat.le_refl _)
  rw [List.take_length, List.take_of_length_le (by omega)] at cl csz
  have s6 : Sz 4 (1 / q) := sz_quo (show Sz 0 1 from ⟨by decide +kernel, by decide +kernel⟩) sq q0
  have z0 : AllSz 0 (List.replicate c (0 : Rat)) := fun z hz => by rw [List.eq_of_mem_replicate hz]; exact sz_zero
  have e7 := minus_eq (k := k + 2) (f := 1 / q) h_law_gcd h_law_ratio h_law_sub h_law_mul h_law_minus (Row.lst (L := p4.lo :: (Z1 ++ [.lst ys, .lst (gs.map fr)])) (List.replicate c (0 : Rat))) (Row.lst (comb rs (gs.set n 0) c)) (by rw [cl, List.length_replicate]) z0 csz s6 (by rw [List.length_replicate]; omega) (by omega)
  have nrl : (minusQ (List.replicate c (0 : Rat)) (comb rs (gs.set n 0) c) (1 / q)).length = c := by unfold minusQ; rw [List.length_zipWith, cl, List.length_replicate, Nat.min_self]
  have nrs : AllSz 260 (minusQ (List.replicate c (0 : Rat)) (comb rs (gs.set n 0) c) (1 / q)) := by
    intro z hz
    obtain ⟨i, hi, e⟩ := List.getElem_of_mem hz
    have e : (minusQ (List.replicate c (0 : Rat)) (comb rs (gs.set n 0) c) (1 / q))[i]? = some z := by rw [List.getElem?_eq_getElem hi, e]
    unfold minusQ at e
    rw [List.getElem?_zipWith] at e
    split at e
    · rename_i x y h1 h2
      cases e
      exact (sz_sub (z0.at h1) (sz_mul s6 (csz.at h2))).mono (by omega)
    · cases e
  generalize hnr : minusQ (List.replicate c (0 : Rat)) (comb rs (gs.set n 0) c) (1 / q) = nr at *
  generalize hcb : comb rs (gs.set n 0) c = cb at *
  have i2 : ixN ys.length (n : Int) = some n := ixN_nat (by omega)
  obtain ⟨rt, p5, r1, r2, hp5, e8⟩ := row_eq h_law_mixed h_law_rest h_law_draw h_law_gcd h_law_ratio h_law_fraction h_law_row (k + 1) (n := M) (c := b) (hp4.mono (by omega)) (by omega) (Z1 ++ [.lst (ys.set n (.lst (nr.map fr))), .lst (gs.map fr)])
  simp only [List.length_append, List.length_cons, List.length_nil, List.append_assoc, List.cons_append, List.nil_append, Nat.zero_add] at e8
  have R5 : Row (p5.lo :: (Z1 ++ [.lst (ys.set n (.lst (nr.map fr))), .lst (gs.map fr), .lst (rt.map fr)])) (.ref (Z1.length + (1 + 1) + 1)) rt := ⟨seqOf_ref (by simp), by simp⟩
  have e9 := ldot_eq (k := k + 2) h_law_gcd h_law_ratio h_law_add h_law_mul h_law_dot R5 (Row.lst (gs.set n 0)) (by omega) r2 rsz (by omega) (by omega)
  have dsz := dq_sz r2 rsz rt.length
  rw [List.take_length, List.take_of_length_le (by omega)] at dsz
  have e10 := lsub_eq h_law_gcd h_law_ratio h_law_sub (k + 3) (p5.lo :: (Z1 ++ [.lst (ys.set n (.lst (nr.map fr))), .lst (gs.map fr), .lst (rt.map fr)])) (show Sz 0 1 from ⟨by decide +kernel, by decide +kernel⟩) dsz (by omega)
  have s10 := sz_sub (show Sz 0 1 from ⟨by decide +kernel, by decide +kernel⟩) dsz
  generalize hdq : 1 - dq rt (gs.set n 0) = dd at *
  rw [fr_1] at e10
  have e11 := ldiv_eq h_law_gcd h_law_ratio h_law_div (k + 3) (p5.lo :: (Z1 ++ [.lst (ys.set n (.lst (nr.map fr))), .lst (gs.map fr), .lst (rt.map fr)])) s10 sq (by omega) q0
  have s11 := sz_quo s10 sq q0
  have i3 : ixN (rt.map fr).length (n : Int) = some n := ixN_nat (by rw [List.length_map]; omega)
  have m3 : (rt.map fr).set n (fr (dd / q)) = (rt.set n (dd / q)).map fr := by rw [List.map_set]
  have ga : atI (gs.map fr) (n : Int) = some (fr q) := by rw [atI_nat, List.getElem?_map, fq]; rfl
  have gA : ∀ A B : LO, (Z1 ++ [A, B])[Z1.length]? = some A := fun A B => by simp
  have gB : ∀ A B : LO, (Z1 ++ [A, B])[Z1.length + 1]? = some B := fun A B => by simp
  have sA : ∀ A B u : LO, (Z1 ++ [A, B]).set Z1.length u = Z1 ++ [u, B] := fun A B u => by simp
  have sB : ∀ A B u : LO, (Z1 ++ [A, B]).set (Z1.length + 1) u = Z1 ++ [A, u] := fun A B u => by
    rw [List.set_append_right _ _ (by omega)]; simp
  have gB3 : ∀ A B C : LO, (Z1 ++ [A, B, C])[Z1.length + 1]? = some B := fun A B C => by simp
  have gC3 : ∀ A B C : LO, (Z1 ++ [A, B, C])[Z1.length + (1 + 1)]? = some C := fun A B C => by simp
  have sC : ∀ A B C u : LO, (Z1 ++ [A, B, C]).set (Z1.length + (1 + 1)) u = Z1 ++ [A, B, u] := fun A B C u => by
    rw [List.set_append_right _ _ (by omega)]; simp
  refine ⟨p5, Y1 ++ [.lst (ys.set n (.lst (nr.map fr))), .lst (gs.map fr), .lst ((rt.set n (dd / q)).map fr)], .ref (Z1.length + 1), .ref (Z1.length + (1 + 1) + 1), .ref (Z1.length + 1 + 1), rs.set n nr, rt.set n (dd / q), gs, ?_, hp5, ?_⟩
  · rw [← List.append_assoc, ← hZ, call_of h_law_no_solution_made]
    unfold b_law_no_solution_made
    generalize c_law_no_solution_made_1 = C1 at *
    generalize c_law_no_solution_made_2 = C2 at *
    generalize c_law_no_solution_made_3 = C3 at *
    simp -implicitDefEqProofs only [varE_ev, cE_ev, argsE_nil, argsE_cons, aK1_ok, aK2_ok, tupE_ev, tupK_ok, lstE_ev, lstK_ok, dctE_ev, newL_t, newL_f, newD_t, newD_f, binE_ev, binK1_ok, binK2_ok, idxE_ev, idxK1_ok, idxK2_ok, cmpE_ev, cmpK1_ok, cmpK2_ok, optV_s, optB_s, testB_ev, testK_ok, truE_ev, truK_ok, truO_s, notT_ev, notK_ok, andT_ev, andK_t, andK_f, orT_ev, orK_t, orK_f, andE_ev, andV1_ok, andV2_t, andV2_f, orE_ev, orV1_ok, orV2_t, orV2_f, notE_ev, notV1_ok, notV2_s, negE_ev, negK_ok, ifE_ev, ifV_t, ifV_f, chainE_ev, chK1_ok, chK2_ok, chK3_t, chK3_f, chK4_ok, partE_ev, partK_ok, noE_ev, sliceE_ev, slK1_ok, slK2_ok, slK3_ok, callE_ev, callK_ok, biE_ev, biK_ok, appE_ev, apK2_ok, getE_ev, geK2_ok, get2E_ev, gfK2_ok, gfK3_ok, geO_ok, asgN_ev, asgK_ok, asgT_ev, asgTK_ok, asgO_s, putE_ev, putK1_ok, putK2_ok, putK3_ok, putK4_ok, retE_ev, retK_ok, retN_ev, exprS_ev, exprK_ok, passS_ev, breakS_ev, contS_ev, ifS_ev, ifK_t, ifK_f, blkS_nil, blkS_cons, blkK_n, blkK_r, blkK_b, blkK_c, finK_r, finK_n, stT_nm, stT_tp, stTs_nil, stTs_cons, stO_s, Ev.add_int, Ev.sub_int, mul_intE, div_int, mod_intE, lt_intE, gt_intE, le_intE, ge_intE, eq_intE, ne_intE, eq_strE, ne_strE, eq_blE, ne_blE, is_nonE, is_blE, isnot_nonE, idx_lst, idx_tup, idx_refI, idx_refS, idx_dctI, idx_dctS, setL_lst, setL_str, ix4_0, ix4_1, ix4_2, ix4_3, fin_f, List.map, List.replicate, List.length_cons, List.length_nil, List.nil_append, List.cons_append, List.getElem?_cons_zero, List.getElem?_cons_succ, List.set_cons_zero, List.set_cons_succ, if_true, if_false, decide_true, decide_false, Bool.not_true, Bool.not_false, ite_true, ite_false, Ev.bi_len, lenO_s, bi_int, bi_intb, bi_abs, bi_min, bi_max, bi_gcd, bi_str, tr_bl, tr_int, Nat.sub_self, Nat.zero_add, Nat.reduceAdd, Nat.reduceSub, atI_0, atI_1, atI_2, atI_3, atI_4, Int.reduceNeg, Ev.pow_int, and_self, Bool.false_eq_true, reduceCtorEq, Option.bind_some, Option.bind_none, id_eq, Int.le_refl, Int.lt_irrefl, Int.reduceEq, Int.reduceNe, Int.reduceLT, Int.reduceLE, Int.reducePow, Int.reduceToNat, Int.reduceAbs, Nat.reducePow, Nat.reduceLT, Nat.reduceLeDiff, Nat.reduceEqDiff, Nat.reduceMul, c1, e2, e3, e4, gA, gB, sA, sB, i1, m1, hf, c2, c3, e5, e6, e7, ga, i2, e8, e9, e10, e11, gB3, gC3, sC, i3, m3]
  · rw [← List.append_assoc, ← hZ]
    refine ⟨⟨⟨ys.set n (.lst (nr.map fr)), seqOf_ref (by simp), by rw [List.length_set, List.length_set]; omega, fun i u r hu hr => ?_⟩, by simp⟩, ⟨seqOf_ref (by simp), by simp⟩, ⟨seqOf_ref (by simp), by simp⟩, by rw [List.length_set]; exact a1, by rw [List.length_set]; exact r1, fl, ⟨fun r hr => ?_, fun r hr => ?_⟩, fun z hz => ?_, fsz⟩
    · by_cases hin : n = i
      · subst hin
        rw [List.getElem?_set_self (by omega)] at hu hr
        cases hu; cases hr
        exact Row.lst nr
      · rw [List.getElem?_set_ne hin] at hu hr
        exact (a4 i u r hu hr).more.row
    · rcases List.mem_or_eq_of_mem_set hr with h | h
      · exact a3.len r h
      · rw [h]; exact nrl
    · rcases List.mem_or_eq_of_mem_set hr with h | h
      · exact (a3.sz r h).mono (by omega)
      · rw [h]; exact nrs
    · rcases List.mem_or_eq_of_mem_set hz with h | h
      · exact (r2 z h).mono (by omega)
      · rw [h]; exact s11.mono (by omega)
end
end K02

set_option maxHeartbeats 4000000
namespace K02
open PySem Ev
open L2 (atI cutS)
section
variable {H : List LO} {c m n M : Nat} {v w u : LV} {rs : List (List Rat)} {right fs : List Rat} {y0 y1 y3 y5 y8 y9 y10 y11 y12 : Option LV}
def cp (rs : List (List Rat)) : LV := .lst (rs.map fun r => .lst (r.map fr))
theorem cp_mat (L : List LO) (rs : List (List Rat)) : Mat L (cp rs) rs := ⟨⟨_, rfl, by simp, fun i u r hu hr => by
  rw [List.getElem?_map, hr] at hu
  cases hu
  exact Row.lst r⟩, fun e => by cases e⟩
theorem cp_eq {cb : CB} {y2 y6 y7 : Option LV} (hv : Mat H v rs) (hs : rs.length ≤ 1000) : lcN 4 (.nm 12) yesT (biE .list false [(varE 12)]) [12] false cb [y0, y1, y2, y3, some v, y5, y6, y7, y8, y9, y10, y11, y12] H = .ok (cp rs) H := by
  obtain ⟨⟨vs, v1, v2, v3⟩, _⟩ := hv
  rw [lc_name (v := v) (xs := vs) (zs := rs.map fun r => LV.lst (r.map fr)) rfl v1 (by rw [List.length_map]; omega) (small_line (by omega))]
  · rfl
  · intro i x z hx hz
    rw [List.getElem?_map] at hz
    obtain ⟨r, hr, rfl⟩ := Option.map_eq_some_iff.mp hz
    have e := bi_list_s (mu := false) (items_seq (v3 i x r hx hr).1)
    exact ⟨[y0, y1, y2, y3, some v, y5, y6, y7, y8, y9, y10, y11, some x], rfl, rfl, by simp -implicitDefEqProofs only [varE_ev, cE_ev, argsE_nil, argsE_cons, aK1_ok, aK2_ok, tupE_ev, tupK_ok, lstE_ev, lstK_ok, dctE_ev, newL_t, newL_f, newD_t, newD_f, binE_ev, binK1_ok, binK2_ok, idxE_ev, idxK1_ok, idxK2_ok, cmpE_ev, cmpK1_ok, cmpK2_ok, optV_s, optB_s, testB_ev, testK_ok, truE_ev, truK_ok, truO_s, notT_ev, notK_ok, andT_ev, andK_t, andK_f, orT_ev, orK_t, orK_f, andE_ev, andV1_ok, andV2_t, andV2_f, orE_ev, orV1_ok, orV2_t, orV2_f, notE_ev, notV1_ok, notV2_s, negE_ev, negK_ok, ifE_ev, ifV_t, ifV_f, chainE_ev, chK1_ok, chK2_ok, chK3_t, chK3_f, chK4_ok, partE_ev, partK_ok, noE_ev, sliceE_ev, slK1_ok, slK2_ok, slK3_ok, callE_ev, callK_ok, biE_ev, biK_ok, appE_ev, apK2_ok, getE_ev, geK2_ok, get2E_ev, gfK2_ok, gfK3_ok, geO_ok, asgN_ev, asgK_ok, asgT_ev, asgTK_ok, asgO_s, putE_ev, putK1_ok, putK2_ok, putK3_ok, putK4_ok, retE_ev, retK_ok, retN_ev, exprS_ev, exprK_ok, passS_ev, breakS_ev, contS_ev, ifS_ev, ifK_t, ifK_f, blkS_nil, blkS_cons, blkK_n, blkK_r, blkK_b, blkK_c, finK_r, finK_n, stT_nm, stT_tp, stTs_nil, stTs_cons, stO_s, Ev.add_int, Ev.sub_int, mul_intE, div_int, mod_intE, lt_intE, gt_intE, le_intE, ge_intE, eq_intE, ne_intE, eq_strE, ne_strE, eq_blE, ne_blE, is_nonE, is_blE, isnot_nonE, idx_lst, idx_tup, idx_refI, idx_refS, idx_dctI, idx_dctS, setL_lst, setL_str, ix4_0, ix4_1, ix4_2, ix4_3, fin_f, List.map, List.replicate, List.length_cons, List.length_nil, List.nil_append, List.cons_append, List.getElem?_cons_zero, List.getElem?_cons_succ, List.set_cons_zero, List.set_cons_succ, if_true, if_false, decide_true, decide_false, Bool.not_true, Bool.not_false, ite_true, ite_false, Ev.bi_len, lenO_s, bi_int, bi_intb, bi_abs, bi_min, bi_max, bi_gcd, bi_str, tr_bl, tr_int, Nat.sub_self, Nat.zero_add, Nat.reduceAdd, Nat.reduceSub, atI_0, atI_1, atI_2, atI_3, atI_4, Int.reduceNeg, Ev.pow_int, and_self, Bool.false_eq_true, reduceCtorEq, Option.bind_some, Option.bind_none, id_eq, Int.le_refl, Int.lt_irrefl, Int.reduceEq, Int.reduceNe, Int.reduceLT, Int.reduceLE, Int.reducePow, Int.reduceToNat, Int.reduceAbs, Nat.reducePow, Nat.reduceLT, Nat.reduceLeDiff, Nat.reduceEqDiff, Nat.reduceMul, e]⟩
theorem same3 (hv : Mat H v rs) (hw : Row H w right) (hu : Row H u fs) (h1 : rs.length ≤ 1000) (h2 : ∀ r ∈ rs, r.length ≤ 1000) (h3 : right.length ≤ 1000) (h4 : fs.length ≤ 1000) : Same H 4 (.lst [cp rs, .lst (right.map fr), .lst (fs.map fr)]) (.lst [v, w, u]) :=
  .lst seqOf_lst seqOf_lst rfl (by simp) fun i a b ha hb => by
    match i, ha, hb with
    | 0, ha, hb => cases ha; cases hb; exact Same.mat (n := 0) (cp_mat H rs) hv (by omega) (fun r hr => by have := h2 r hr; omega)
    | 1, ha, hb => cases ha; cases hb; exact Same.row (n := 1) (Row.lst right) hw (by omega)
    | 2, ha, hb => cases ha; cases hb; exact Same.row (n := 1) (Row.lst fs) hu (by omega)
theorem turn1 (hv : Mat H v rs) (hw : Row H w right) (hu : Row H u fs) (hl : right.length = rs.length) (hr : Rows m c rs) (hf : AllSz n fs) (hs : rs.length ≤ 5) (hc : c ≤ 4) (hf9 : fs.length ≤ 10) (h9 : m + n ≤ 400) :
    ∃ y8' y9', l_p_law_1 (evCall (tabOf ds) 60) [y0, y1, some (.int c), y3, some v, y5, some w, some u, y8, y9, y10, y11, y12] H = .ok (.next, [y0, y1, some (.int c), y3, some v, y5, some w, some u, y8', y9', y10, y11, y12]) H := by
  have hb : c * (m + n + 3) ≤ 4 * (m + n + 3) := Nat.mul_le_mul_right _ hc
  have e1 : evCall (tabOf ds) 60 "shows_solution" [cp rs, .lst (right.map fr), .int c, .lst (fs.map fr)] H = .ok (.bl (decide (fs.length = c) && (okB rs right fs).all id)) H := solution_eq (k := 56) (cp_mat H rs) (Row.lst right) (Row.lst fs) hl hr hf (by omega) (by omega)
  have e2 : evCall (tabOf ds) 60 "_law_solves" [v, w, .int c, u] H = .ok (.bl (decide (fs.length = c) && (okB rs right fs).all id)) H := lsolution_eq (k := 55) hv hw hu hl hr hf (by omega) (by omega) (by omega)
  generalize (decide (fs.length = c) && (okB rs right fs).all id) = B at *
  have e3 : evCall (tabOf ds) 60 "_law_same" [.bl B, .bl B] H = .ok (.bl true) H := sameB_leaf (k := 59) h_law_same (.inr (.inl ⟨B, rfl⟩))
  have e4 : evCall (tabOf ds) 60 "_law_same" [.lst [cp rs, .lst (right.map fr), .lst (fs.map fr)], .lst [v, w, u]] H = .ok (.bl true) H := sameB_eq h_law_same 4 (same3 hv hw hu (by omega) (fun r hh => by have := hr.len r hh; omega) (by omega) (by omega)) 55
  have e5 : c_p_law_3 (evCall (tabOf ds) 60) [y0, y1, some (.int c), y3, some v, y5, some w, some u, y8, y9, y10, y11, y12] H = .ok (cp rs) H := cp_eq hv (by omega)
  have e6 := bi_list_s (mu := false) (items_seq hw.1)
  have e7 := bi_list_s (mu := false) (items_seq hu.1)
  refine ⟨some (.lst [cp rs, .lst (right.map fr), .lst (fs.map fr)]), some (.bl B), ?_⟩
  unfold l_p_law_1
  generalize c_p_law_3 = C3 at *
  generalize cp rs = V at *
  simp -implicitDefEqProofs only [varE_ev, cE_ev, argsE_nil, argsE_cons, aK1_ok, aK2_ok, tupE_ev, tupK_ok, lstE_ev, lstK_ok, dctE_ev, newL_t, newL_f, newD_t, newD_f, binE_ev, binK1_ok, binK2_ok, idxE_ev, idxK1_ok, idxK2_ok, cmpE_ev, cmpK1_ok, cmpK2_ok, optV_s, optB_s, testB_ev, testK_ok, truE_ev, truK_ok, truO_s, notT_ev, notK_ok, andT_ev, andK_t, andK_f, orT_ev, orK_t, orK_f, andE_ev, andV1_ok, andV2_t, andV2_f, orE_ev, orV1_ok, orV2_t, orV2_f, notE_ev, notV1_ok, notV2_s, negE_ev, negK_ok, ifE_ev, ifV_t, ifV_f, chainE_ev, chK1_ok, chK2_ok, chK3_t, chK3_f, chK4_ok, partE_ev, partK_ok, noE_ev, sliceE_ev, slK1_ok, slK2_ok, slK3_ok, callE_ev, callK_ok, biE_ev, biK_ok, appE_ev, apK2_ok, getE_ev, geK2_ok, get2E_ev, gfK2_ok, gfK3_ok, geO_ok, asgN_ev, asgK_ok, asgT_ev, asgTK_ok, asgO_s, putE_ev, putK1_ok, putK2_ok, putK3_ok, putK4_ok, retE_ev, retK_ok, retN_ev, exprS_ev, exprK_ok, passS_ev, breakS_ev, contS_ev, ifS_ev, ifK_t, ifK_f, blkS_nil, blkS_cons, blkK_n, blkK_r, blkK_b, blkK_c, finK_r, finK_n, stT_nm, stT_tp, stTs_nil, stTs_cons, stO_s, Ev.add_int, Ev.sub_int, mul_intE, div_int, mod_intE, lt_intE, gt_intE, le_intE, ge_intE, eq_intE, ne_intE, eq_strE, ne_strE, eq_blE, ne_blE, is_nonE, is_blE, isnot_nonE, idx_lst, idx_tup, idx_refI, idx_refS, idx_dctI, idx_dctS, setL_lst, setL_str, ix4_0, ix4_1, ix4_2, ix4_3, fin_f, List.map, List.replicate, List.length_cons, List.length_nil, List.nil_append, List.cons_append, List.getElem?_cons_zero, List.getElem?_cons_succ, List.set_cons_zero, List.set_cons_succ, if_true, if_false, decide_true, decide_false, Bool.not_true, Bool.not_false, ite_true, ite_false, Ev.bi_len, lenO_s, bi_int, bi_intb, bi_abs, bi_min, bi_max, bi_gcd, bi_str, tr_bl, tr_int, Nat.sub_self, Nat.zero_add, Nat.reduceAdd, Nat.reduceSub, atI_0, atI_1, atI_2, atI_3, atI_4, Int.reduceNeg, Ev.pow_int, and_self, Bool.false_eq_true, reduceCtorEq, Option.bind_some, Option.bind_none, id_eq, Int.le_refl, Int.lt_irrefl, Int.reduceEq, Int.reduceNe, Int.reduceLT, Int.reduceLE, Int.reducePow, Int.reduceToNat, Int.reduceAbs, Nat.reducePow, Nat.reduceLT, Nat.reduceLeDiff, Nat.reduceEqDiff, Nat.reduceMul, e5, e6, e7, e1, e2, e3, e4]
theorem turn2 (hv : Mat H v rs) (hw : Row H w right) (hu : Row H u fs) (hl : right.length = rs.length) (hr : Rows m c rs) (hR : AllSz m right) (hf : AllSz n fs) (hs : rs.length ≤ 5) (hc : c ≤ 4) (hf9 : fs.length ≤ 10) (h9 : m + n ≤ 400) :
    ∃ y8' y9', l_p_law_2 (evCall (tabOf ds) 60) [y0, y1, some (.int c), y3, some v, y5, some w, some u, y8, y9, y10, y11, y12] H = .ok (.next, [y0, y1, some (.int c), y3, some v, y5, some w, some u, y8', y9', y10, y11, y12]) H := by
  have hb : rs.length * (m + n + 3) ≤ 5 * (m + n + 3) := Nat.mul_le_mul_right _ hs
  have hb2 : rs.length * (m + n + 5) ≤ 5 * (m + n + 5) := Nat.mul_le_mul_right _ hs
  have e1 : evCall (tabOf ds) 60 "shows_no_solution" [cp rs, .lst (right.map fr), .int c, .lst (fs.map fr)] H = .ok (.bl (noneB rs right fs c)) H := none_eq (k := 56) (cp_mat H rs) (Row.lst right) (Row.lst fs) hl hr hR hf (by omega) (by omega) (by omega)
  have e2 : evCall (tabOf ds) 60 "_law_shows_none" [v, w, .int c, u] H = .ok (.bl (noneB rs right fs c)) H := lnone_eq (k := 54) hv hw hu hl hr hR hf (by omega) (by omega) (by omega)
  generalize noneB rs right fs c = B at *
  have e3 : evCall (tabOf ds) 60 "_law_same" [.bl B, .bl B] H = .ok (.bl true) H := sameB_leaf (k := 59) h_law_same (.inr (.inl ⟨B, rfl⟩))
  have e4 : evCall (tabOf ds) 60 "_law_same" [.lst [cp rs, .lst (right.map fr), .lst (fs.map fr)], .lst [v, w, u]] H = .ok (.bl true) H := sameB_eq h_law_same 4 (same3 hv hw hu (by omega) (fun r hh => by have := hr.len r hh; omega) (by omega) (by omega)) 55
  have e5 : c_p_law_4 (evCall (tabOf ds) 60) [y0, y1, some (.int c), y3, some v, y5, some w, some u, y8, y9, y10, y11, y12] H = .ok (cp rs) H := cp_eq hv (by omega)
  have e6 := bi_list_s (mu := false) (items_seq hw.1)
  have e7 := bi_list_s (mu := false) (items_seq hu.1)
  refine ⟨some (.lst [cp rs, .lst (right.map fr), .lst (fs.map fr)]), some (.bl B), ?_⟩
  unfold l_p_law_2
  generalize c_p_law_4 = C3 at *
  generalize cp rs = V at *
  simp -implicitDefEqProofs only [varE_ev, cE_ev, argsE_nil, argsE_cons, aK1_ok, aK2_ok, tupE_ev, tupK_ok, lstE_ev, lstK_ok, dctE_ev, newL_t, newL_f, newD_t, newD_f, binE_ev, binK1_ok, binK2_ok, idxE_ev, idxK1_ok, idxK2_ok, cmpE_ev, cmpK1_ok, cmpK2_ok, optV_s, optB_s, testB_ev, testK_ok, truE_ev, truK_ok, truO_s, notT_ev, notK_ok, andT_ev, andK_t, andK_f, orT_ev, orK_t, orK_f, andE_ev, andV1_ok, andV2_t, andV2_f, orE_ev, orV1_ok, orV2_t, orV2_f, notE_ev, notV1_ok, notV2_s, negE_ev, negK_ok, ifE_ev, ifV_t, ifV_f, chainE_ev, chK1_ok, chK2_ok, chK3_t, chK3_f, chK4_ok, partE_ev, partK_ok, noE_ev, sliceE_ev, slK1_ok, slK2_ok, slK3_ok, callE_ev, callK_ok, biE_ev, biK_ok, appE_ev, apK2_ok, getE_ev, geK2_ok, get2E_ev, gfK2_ok, gfK3_ok, geO_ok, asgN_ev, asgK_ok, asgT_ev, asgTK_ok, asgO_s, putE_ev, putK1_ok, putK2_ok, putK3_ok, putK4_ok, retE_ev, retK_ok, retN_ev, exprS_ev, exprK_ok, passS_ev, breakS_ev, contS_ev, ifS_ev, ifK_t, ifK_f, blkS_nil, blkS_cons, blkK_n, blkK_r, blkK_b, blkK_c, finK_r, finK_n, stT_nm, stT_tp, stTs_nil, stTs_cons, stO_s, Ev.add_int, Ev.sub_int, mul_intE, div_int, mod_intE, lt_intE, gt_intE, le_intE, ge_intE, eq_intE, ne_intE, eq_strE, ne_strE, eq_blE, ne_blE, is_nonE, is_blE, isnot_nonE, idx_lst, idx_tup, idx_refI, idx_refS, idx_dctI, idx_dctS, setL_lst, setL_str, ix4_0, ix4_1, ix4_2, ix4_3, fin_f, List.map, List.replicate, List.length_cons, List.length_nil, List.nil_append, List.cons_append, List.getElem?_cons_zero, List.getElem?_cons_succ, List.set_cons_zero, List.set_cons_succ, if_true, if_false, decide_true, decide_false, Bool.not_true, Bool.not_false, ite_true, ite_false, Ev.bi_len, lenO_s, bi_int, bi_intb, bi_abs, bi_min, bi_max, bi_gcd, bi_str, tr_bl, tr_int, Nat.sub_self, Nat.zero_add, Nat.reduceAdd, Nat.reduceSub, atI_0, atI_1, atI_2, atI_3, atI_4, Int.reduceNeg, Ev.pow_int, and_self, Bool.false_eq_true, reduceCtorEq, Option.bind_some, Option.bind_none, id_eq, Int.le_refl, Int.lt_irrefl, Int.reduceEq, Int.reduceNe, Int.reduceLT, Int.reduceLE, Int.reducePow, Int.reduceToNat, Int.reduceAbs, Nat.reducePow, Nat.reduceLT, Nat.reduceLeDiff, Nat.reduceEqDiff, Nat.reduceMul, e5, e6, e7, e1, e2, e3, e4]
end
section
variable {H : List LO} {c m n M : Nat} {v w u r : LV} {rs : List (List Rat)} {right : List Rat} {vs : List LV} {y0 y1 y3 y5 y7 y8 y9 y10 y11 y12 : Option LV}
theorem loop1 {L : List LO} (hf : callE "_law_papers" [(varE 1), (varE 5)] (evCall (tabOf ds) 60) [y0, y1, some (.int c), y3, some v, y5, some w, y7, y8, y9, y10, y11, y12] L = .ok r H) (hv : Mat H v rs) (hw : Row H w right) (hvs : seqOf H r = some vs) (hg : ∀ u ∈ vs, Good H M n u) (hl : right.length = rs.length) (hr : Rows m c rs) (hs : rs.length ≤ 5) (hc : c ≤ 4) (hM : M ≤ 10) (h9 : m + n ≤ 400) :
    ∃ y7' y8' y9', f_p_law_1 (evCall (tabOf ds) 60) [y0, y1, some (.int c), y3, some v, y5, some w, y7, y8, y9, y10, y11, y12] L = .ok (.next, [y0, y1, some (.int c), y3, some v, y5, some w, y7', y8', y9', y10, y11, y12]) H := by
  unfold f_p_law_1
  refine forE_seq (P := fun r => ∃ y7' y8' y9', r = .ok (.next, [y0, y1, some (.int c), y3, some v, y5, some w, y7', y8', y9', y10, y11, y12]) H) (fun i s L' => (∃ y7' y8' y9', s = [y0, y1, some (.int c), y3, some v, y5, some w, y7', y8', y9', y10, y11, y12]) ∧ L' = H) hf hvs ⟨⟨_, _, _, rfl⟩, rfl⟩ (fun i s L' hI => by rw [hI.2]; exact hvs) (fun i s L' x hx hI => ?_) (fun s L' hI => ?_)
  · obtain ⟨⟨a7, a8, a9, rfl⟩, rfl⟩ := hI
    obtain ⟨fs, g1, g2, g3⟩ := hg x (List.mem_of_getElem? hx)
    obtain ⟨b8, b9, e⟩ := turn1 (y0 := y0) (y1 := y1) (y3 := y3) (y5 := y5) (y8 := a8) (y9 := a9) (y10 := y10) (y11 := y11) (y12 := y12) hv hw g1 hl hr g3 hs hc (by omega) h9
    refine ⟨_, stT_nm, ?_⟩
    show Turn _ _ (l_p_law_1 _ [y0, y1, some (.int c), y3, some v, y5, some w, some x, a8, a9, y10, y11, y12] _)
    rw [e]
    exact .next ⟨⟨_, _, _, rfl⟩, rfl⟩
  · obtain ⟨⟨a7, a8, a9, rfl⟩, rfl⟩ := hI
    exact ⟨_, _, _, rfl⟩
theorem loop2 {L : List LO} (hf : callE "_law_papers" [(varE 1), (varE 10)] (evCall (tabOf ds) 60) [y0, y1, some (.int c), y3, some v, y5, some w, y7, y8, y9, y10, y11, y12] L = .ok r H) (hv : Mat H v rs) (hw : Row H w right) (hvs : seqOf H r = some vs) (hg : ∀ u ∈ vs, Good H M n u) (hl : right.length = rs.length) (hr : Rows m c rs) (hR : AllSz m right) (hs : rs.length ≤ 5) (hc : c ≤ 4) (hM : M ≤ 10) (h9 : m + n ≤ 400) :
    ∃ y7' y8' y9', f_p_law_2 (evCall (tabOf ds) 60) [y0, y1, some (.int c), y3, some v, y5, some w, y7, y8, y9, y10, y11, y12] L = .ok (.next, [y0, y1, some (.int c), y3, some v, y5, some w, y7', y8', y9', y10, y11, y12]) H := by
  unfold f_p_law_2
  refine forE_seq (P := fun r => ∃ y7' y8' y9', r = .ok (.next, [y0, y1, some (.int c), y3, some v, y5, some w, y7', y8', y9', y10, y11, y12]) H) (fun i s L' => (∃ y7' y8' y9', s = [y0, y1, some (.int c), y3, some v, y5, some w, y7', y8', y9', y10, y11, y12]) ∧ L' = H) hf hvs ⟨⟨_, _, _, rfl⟩, rfl⟩ (fun i s L' hI => by rw [hI.2]; exact hvs) (fun i s L' x hx hI => ?_) (fun s L' hI => ?_)
  · obtain ⟨⟨a7, a8, a9, rfl⟩, rfl⟩ := hI
    obtain ⟨fs, g1, g2, g3⟩ := hg x (List.mem_of_getElem? hx)
    obtain ⟨b8, b9, e⟩ := turn2 (y0 := y0) (y1 := y1) (y3 := y3) (y5 := y5) (y8 := a8) (y9 := a9) (y10 := y10) (y11 := y11) (y12 := y12) hv hw g1 hl hr hR g3 hs hc (by omega) h9
    refine ⟨_, stT_nm, ?_⟩
    show Turn _ _ (l_p_law_2 _ [y0, y1, some (.int c), y3, some v, y5, some w, some x, a8, a9, y10, y11, y12] _)
    rw [e]
    exact .next ⟨⟨_, _, _, rfl⟩, rfl⟩
  · obtain ⟨⟨a7, a8, a9, rfl⟩, rfl⟩ := hI
    exact ⟨_, _, _, rfl⟩
end
theorem law_true : ∀ ns : List Int, ns.length ≤ 63 → (∀ z ∈ ns, Builtin.Int.intBits z ≤ 1048576) → ∃ L, evCall (tabOf ds) 61 d_p_law.x [.lst (ns.map .int)] [] = .ok (.bl true) L := by
  intro ns hl hb
  obtain ⟨p0, hp0, e0⟩ := pool_eq h_law_mixed h_law_rest h_law_pool 57 (script := ns) [] (fun z hz => bits_lg (hb z hz)) hl
  have e0 : evCall (tabOf ds) 60 "_law_pool" [.lst (ns.map .int)] [] = .ok (.ref 0) [p0.lo] := e0
  obtain ⟨c, p1, c0, c1, hp1, e1⟩ := draw0 h_law_mixed h_law_rest h_law_draw 57 (c := 10000) (lim := 5) (hp0.mono (by omega)) (by decide) []
  obtain ⟨c, rfl⟩ : ∃ n : Nat, c = n := ⟨c.toNat, by omega⟩
  obtain ⟨M, p2, m0, m1, hp2, e2⟩ := draw0 h_law_mixed h_law_rest h_law_draw 57 (c := 9999) (lim := 5) (hp1.mono (by omega)) (by decide) []
  obtain ⟨M, rfl⟩ : ∃ n : Nat, M = n := ⟨M.toNat, by omega⟩
  have eM : (1 : Int) + (M : Int) = ((M + 1 : Nat) : Int) := by omega
  have hcM : 3 * c * (M + 1) ≤ 3 * c * 5 := Nat.mul_le_mul_left _ (by omega)
  -- the rows
  obtain ⟨ys, rs, p3, Y1, e3, hp3, a1, a2, a3, a4⟩ := rows_eq (k := 55) (b := 9000) (X := []) (p := p2) (c := c) (M := M + 1) (s := [some (.lst (ns.map .int)), some (.ref 0), some (.int c), some (.int (M + 1 : Nat)), none, none, none, none, none, none, none, none, none]) (own := [11]) (mu := false) (fc := callE "_law_row" [(varE 1), (varE 2)]) (j := 11) (hp2.mono (by omega)) (by omega) (by omega)
    (fun i L => ⟨[some (.lst (ns.map .int)), some (.ref 0), some (.int c), some (.int (M + 1 : Nat)), none, none, none, none, none, none, none, some (.int i), none], rfl, by simp -implicitDefEqProofs only [varE_ev, cE_ev, argsE_nil, argsE_cons, aK1_ok, aK2_ok, tupE_ev, tupK_ok, lstE_ev, lstK_ok, dctE_ev, newL_t, newL_f, newD_t, newD_f, binE_ev, binK1_ok, binK2_ok, idxE_ev, idxK1_ok, idxK2_ok, cmpE_ev, cmpK1_ok, cmpK2_ok, optV_s, optB_s, testB_ev, testK_ok, truE_ev, truK_ok, truO_s, notT_ev, notK_ok, andT_ev, andK_t, andK_f, orT_ev, orK_t, orK_f, andE_ev, andV1_ok, andV2_t, andV2_f, orE_ev, orV1_ok, orV2_t, orV2_f, notE_ev, notV1_ok, notV2_s, negE_ev, negK_ok, ifE_ev, ifV_t, ifV_f, chainE_ev, chK1_ok, chK2_ok, chK3_t, chK3_f, chK4_ok, partE_ev, partK_ok, noE_ev, sliceE_ev, slK1_ok, slK2_ok, slK3_ok, callE_ev, callK_ok, biE_ev, biK_ok, appE_ev, apK2_ok, getE_ev, geK2_ok, get2E_ev, gfK2_ok, gfK3_ok, geO_ok, asgN_ev, asgK_ok, asgT_ev, asgTK_ok, asgO_s, putE_ev, putK1_ok, putK2_ok, putK3_ok, putK4_ok, retE_ev, retK_ok, retN_ev, exprS_ev, exprK_ok, passS_ev, breakS_ev, contS_ev, ifS_ev, ifK_t, ifK_f, blkS_nil, blkS_cons, blkK_n, blkK_r, blkK_b, blkK_c, finK_r, finK_n, stT_nm, stT_tp, stTs_nil, stTs_cons, stO_s, Ev.add_int, Ev.sub_int, mul_intE, div_int, mod_intE, lt_intE, gt_intE, le_intE, ge_intE, eq_intE, ne_intE, eq_strE, ne_strE, eq_blE, ne_blE, is_nonE, is_blE, isnot_nonE, idx_lst, idx_tup, idx_refI, idx_refS, idx_dctI, idx_dctS, setL_lst, setL_str, ix4_0, ix4_1, ix4_2, ix4_3, fin_f, List.map, List.replicate, List.length_cons, List.length_nil, List.nil_append, List.cons_append, List.getElem?_cons_zero, List.getElem?_cons_succ, List.set_cons_zero, List.set_cons_succ, if_true, if_false, decide_true, decide_false, Bool.not_true, Bool.not_false, ite_true, ite_false, Ev.bi_len, lenO_s, bi_int, bi_intb, bi_abs, bi_min, bi_max, bi_gcd, bi_str, tr_bl, tr_int, Nat.sub_self, Nat.zero_add, Nat.reduceAdd, Nat.reduceSub, atI_0, atI_1, atI_2, atI_3, atI_4, Int.reduceNeg, Ev.pow_int, and_self, Bool.false_eq_true, reduceCtorEq, Option.bind_some, Option.bind_none, id_eq, Int.le_refl, Int.lt_irrefl, Int.reduceEq, Int.reduceNe, Int.reduceLT, Int.reduceLE, Int.reducePow, Int.reduceToNat, Int.reduceAbs, Nat.reducePow, Nat.reduceLT, Nat.reduceLeDiff, Nat.reduceEqDiff, Nat.reduceMul]⟩)
  rw [List.nil_append] at a4 e3
  have c1' : c_p_law_1 (evCall (tabOf ds) 60) [some (.lst (ns.map .int)), some (.ref 0), some (.int c), some (.int (M + 1 : Nat)), none, none, none, none, none, none, none, none, none] [p2.lo] = .ok (.lst ys) (p3.lo :: Y1) := by
    unfold c_p_law_1
    have e0 : varE 3 (evCall (tabOf ds) 60) [some (.lst (ns.map .int)), some (.ref 0), some (.int c), some (.int (M + 1 : Nat)), none, none, none, none, none, none, none, none, none] [p2.lo] = .ok (.int (M + 1 : Nat)) [p2.lo] := by simp -implicitDefEqProofs only [varE_ev, cE_ev, argsE_nil, argsE_cons, aK1_ok, aK2_ok, tupE_ev, tupK_ok, lstE_ev, lstK_ok, dctE_ev, newL_t, newL_f, newD_t, newD_f, binE_ev, binK1_ok, binK2_ok, idxE_ev, idxK1_ok, idxK2_ok, cmpE_ev, cmpK1_ok, cmpK2_ok, optV_s, optB_s, testB_ev, testK_ok, truE_ev, truK_ok, truO_s, notT_ev, notK_ok, andT_ev, andK_t, andK_f, orT_ev, orK_t, orK_f, andE_ev, andV1_ok, andV2_t, andV2_f, orE_ev, orV1_ok, orV2_t, orV2_f, notE_ev, notV1_ok, notV2_s, negE_ev, negK_ok, ifE_ev, ifV_t, ifV_f, chainE_ev, chK1_ok, chK2_ok, chK3_t, chK3_f, chK4_ok, partE_ev, partK_ok, noE_ev, sliceE_ev, slK1_ok, slK2_ok, slK3_ok, callE_ev, callK_ok, biE_ev, biK_ok, appE_ev, apK2_ok, getE_ev, geK2_ok, get2E_ev, gfK2_ok, gfK3_ok, geO_ok, asgN_ev, asgK_ok, asgT_ev, asgTK_ok, asgO_s, putE_ev, putK1_ok, putK2_ok, putK3_ok, putK4_ok, retE_ev, retK_ok, retN_ev, exprS_ev, exprK_ok, passS_ev, breakS_ev, contS_ev, ifS_ev, ifK_t, ifK_f, blkS_nil, blkS_cons, blkK_n, blkK_r, blkK_b, blkK_c, finK_r, finK_n, stT_nm, stT_tp, stTs_nil, stTs_cons, stO_s, Ev.add_int, Ev.sub_int, mul_intE, div_int, mod_intE, lt_intE, gt_intE, le_intE, ge_intE, eq_intE, ne_intE, eq_strE, ne_strE, eq_blE, ne_blE, is_nonE, is_blE, isnot_nonE, idx_lst, idx_tup, idx_refI, idx_refS, idx_dctI, idx_dctS, setL_lst, setL_str, ix4_0, ix4_1, ix4_2, ix4_3, fin_f, List.map, List.replicate, List.length_cons, List.length_nil, List.nil_append, List.cons_append, List.getElem?_cons_zero, List.getElem?_cons_succ, List.set_cons_zero, List.set_cons_succ, if_true, if_false, decide_true, decide_false, Bool.not_true, Bool.not_false, ite_true, ite_false, Ev.bi_len, lenO_s, bi_int, bi_intb, bi_abs, bi_min, bi_max, bi_gcd, bi_str, tr_bl, tr_int, Nat.sub_self, Nat.zero_add, Nat.reduceAdd, Nat.reduceSub, atI_0, atI_1, atI_2, atI_3, atI_4, Int.reduceNeg, Ev.pow_int, and_self, Bool.false_eq_true, reduceCtorEq, Option.bind_some, Option.bind_none, id_eq, Int.le_refl, Int.lt_irrefl, Int.reduceEq, Int.reduceNe, Int.reduceLT, Int.reduceLE, Int.reducePow, Int.reduceToNat, Int.reduceAbs, Nat.reducePow, Nat.reduceLT, Nat.reduceLeDiff, Nat.reduceEqDiff, Nat.reduceMul]
    rw [lcE_rng e0 (by omega) (by omega), Int.toNat_natCast, e3]
    rfl
  obtain ⟨x, p4, x1, x2, hp4, e4⟩ := row_eq h_law_mixed h_law_rest h_law_draw h_law_gcd h_law_ratio h_law_fraction h_law_row 55 (n := c) (c := 8000) (hp3.mono (by omega)) (by omega) Y1
  have M4 : ∀ o W, Mat (o :: (Y1 ++ W)) (.lst ys) rs := fun o W => mat_of a2 a1 a4
  have X4 : ∀ o W, Row (o :: (Y1 ++ [.lst (x.map fr)] ++ W)) (.ref (Y1.length + 1)) x := fun o W => ⟨seqOf_ref (by simp), by simp⟩
  have X40 : Row (p4.lo :: (Y1 ++ [.lst (x.map fr)])) (.ref (Y1.length + 1)) x := by have := X4 p4.lo []; rwa [List.append_nil] at this
  have c2 : c_p_law_2 (evCall (tabOf ds) 60) [some (.lst (ns.map .int)), some (.ref 0), some (.int c), some (.int (M + 1 : Nat)), some (.lst ys), some (.ref (Y1.length + 1)), none, none, none, none, none, none, none] (p4.lo :: (Y1 ++ [.lst (x.map fr)])) = .ok (.lst ((rs.map fun r => dq r x).map fr)) (p4.lo :: (Y1 ++ [.lst (x.map fr)])) := by
    unfold c_p_law_2
    rw [lc_name (v := .lst ys) (xs := ys) (zs := (rs.map fun r => dq r x).map fr) rfl seqOf_lst (by simp; omega) (small_line (by omega))]
    · rfl
    · intro i u z hu hz
      obtain ⟨q, hq, rfl⟩ := row_get hz
      rw [List.getElem?_map] at hq
      obtain ⟨r, hr, rfl⟩ := Option.map_eq_some_iff.mp hq
      have rl := a3.len r (List.mem_of_getElem? hr)
      have hb9 : r.length * (21 + 21 + 3) ≤ 4 * (21 + 21 + 3) := Nat.mul_le_mul_right _ (by omega)
      have e : evCall (tabOf ds) 60 "_law_dot" [u, .ref (Y1.length + 1)] (p4.lo :: (Y1 ++ [.lst (x.map fr)])) = .ok (fr (dq r x)) (p4.lo :: (Y1 ++ [.lst (x.map fr)])) := ldot_eq (k := 56) h_law_gcd h_law_ratio h_law_add h_law_mul h_law_dot (a4 i u r hu hr).more.row X40 (by omega) (a3.sz r (List.mem_of_getElem? hr)) x2 (by omega) (by omega)
      exact ⟨[some (.lst (ns.map .int)), some (.ref 0), some (.int c), some (.int (M + 1 : Nat)), some (.lst ys), some (.ref (Y1.length + 1)), none, none, none, none, none, none, some u], rfl, rfl, by simp -implicitDefEqProofs only [varE_ev, cE_ev, argsE_nil, argsE_cons, aK1_ok, aK2_ok, tupE_ev, tupK_ok, lstE_ev, lstK_ok, dctE_ev, newL_t, newL_f, newD_t, newD_f, binE_ev, binK1_ok, binK2_ok, idxE_ev, idxK1_ok, idxK2_ok, cmpE_ev, cmpK1_ok, cmpK2_ok, optV_s, optB_s, testB_ev, testK_ok, truE_ev, truK_ok, truO_s, notT_ev, notK_ok, andT_ev, andK_t, andK_f, orT_ev, orK_t, orK_f, andE_ev, andV1_ok, andV2_t, andV2_f, orE_ev, orV1_ok, orV2_t, orV2_f, notE_ev, notV1_ok, notV2_s, negE_ev, negK_ok, ifE_ev, ifV_t, ifV_f, chainE_ev, chK1_ok, chK2_ok, chK3_t, chK3_f, chK4_ok, partE_ev, partK_ok, noE_ev, sliceE_ev, slK1_ok, slK2_ok, slK3_ok, callE_ev, callK_ok, biE_ev, biK_ok, appE_ev, apK2_ok, getE_ev, geK2_ok, get2E_ev, gfK2_ok, gfK3_ok, geO_ok, asgN_ev, asgK_ok, asgT_ev, asgTK_ok, asgO_s, putE_ev, putK1_ok, putK2_ok, putK3_ok, putK4_ok, retE_ev, retK_ok, retN_ev, exprS_ev, exprK_ok, passS_ev, breakS_ev, contS_ev, ifS_ev, ifK_t, ifK_f, blkS_nil, blkS_cons, blkK_n, blkK_r, blkK_b, blkK_c, finK_r, finK_n, stT_nm, stT_tp, stTs_nil, stTs_cons, stO_s, Ev.add_int, Ev.sub_int, mul_intE, div_int, mod_intE, lt_intE, gt_intE, le_intE, ge_intE, eq_intE, ne_intE, eq_strE, ne_strE, eq_blE, ne_blE, is_nonE, is_blE, isnot_nonE, idx_lst, idx_tup, idx_refI, idx_refS, idx_dctI, idx_dctS, setL_lst, setL_str, ix4_0, ix4_1, ix4_2, ix4_3, fin_f, List.map, List.replicate, List.length_cons, List.length_nil, List.nil_append, List.cons_append, List.getElem?_cons_zero, List.getElem?_cons_succ, List.set_cons_zero, List.set_cons_succ, if_true, if_false, decide_true, decide_false, Bool.not_true, Bool.not_false, ite_true, ite_false, Ev.bi_len, lenO_s, bi_int, bi_intb, bi_abs, bi_min, bi_max, bi_gcd, bi_str, tr_bl, tr_int, Nat.sub_self, Nat.zero_add, Nat.reduceAdd, Nat.reduceSub, atI_0, atI_1, atI_2, atI_3, atI_4, Int.reduceNeg, Ev.pow_int, and_self, Bool.false_eq_true, reduceCtorEq, Option.bind_some, Option.bind_none, id_eq, Int.le_refl, Int.lt_irrefl, Int.reduceEq, Int.reduceNe, Int.reduceLT, Int.reduceLE, Int.reducePow, Int.reduceToNat, Int.reduceAbs, Nat.reducePow, Nat.reduceLT, Nat.reduceLeDiff, Nat.reduceEqDiff, Nat.reduceMul, e]⟩
  generalize hright : (rs.map fun r => dq r x) = right at *
  have rl : right.length = rs.length := by rw [← hright, List.length_map]
  obtain ⟨p5, hp5, e5⟩ := next_eq h_law_mixed h_law_rest h_law_next 57 (b := 7000) (i := 0) (p := p4) (L := p4.lo :: (Y1 ++ [.lst (x.map fr)])) rfl (hp4.mono (by omega))
  have e5 : evCall (tabOf ds) 60 "_law_next" [.ref 0] (p4.lo :: (Y1 ++ [.lst (x.map fr)])) = .ok .non (p5.lo :: (Y1 ++ [.lst (x.map fr)])) := e5
  have X50 : Row (p5.lo :: (Y1 ++ [.lst (x.map fr)])) (.ref (Y1.length + 1)) x := by have := X4 p5.lo []; rwa [List.append_nil] at this
  obtain ⟨p6, Y2, r1, vs1, e6, hp6, q1, q2, q3, q4⟩ := papers_eq (k := 54) (b := 6000) X50 x2 (by omega) (by omega) (hp5.mono (by omega))
  have e6 : evCall (tabOf ds) 60 "_law_papers" [.ref 0, .ref (Y1.length + 1)] (p5.lo :: (Y1 ++ [.lst (x.map fr)])) = .ok r1 (p6.lo :: (Y1 ++ [.lst (x.map fr)] ++ Y2)) := e6
  obtain ⟨z7, z8, z9, e7⟩ := loop1 (L := p5.lo :: (Y1 ++ [.lst (x.map fr)])) (H := p6.lo :: (Y1 ++ [.lst (x.map fr)] ++ Y2)) (y0 := some (.lst (ns.map .int))) (y1 := some (.ref 0)) (y3 := some (.int (M + 1 : Nat))) (y5 := some (.ref (Y1.length + 1))) (y7 := none) (y8 := none) (y9 := none) (y10 := none) (y11 := none) (y12 := none) (v := .lst ys) (w := .lst (right.map fr)) (r := r1) (c := c) (by simp -implicitDefEqProofs only [varE_ev, cE_ev, argsE_nil, argsE_cons, aK1_ok, aK2_ok, tupE_ev, tupK_ok, lstE_ev, lstK_ok, dctE_ev, newL_t, newL_f, newD_t, newD_f, binE_ev, binK1_ok, binK2_ok, idxE_ev, idxK1_ok, idxK2_ok, cmpE_ev, cmpK1_ok, cmpK2_ok, optV_s, optB_s, testB_ev, testK_ok, truE_ev, truK_ok, truO_s, notT_ev, notK_ok, andT_ev, andK_t, andK_f, orT_ev, orK_t, orK_f, andE_ev, andV1_ok, andV2_t, andV2_f, orE_ev, orV1_ok, orV2_t, orV2_f, notE_ev, notV1_ok, notV2_s, negE_ev, negK_ok, ifE_ev, ifV_t, ifV_f, chainE_ev, chK1_ok, chK2_ok, chK3_t, chK3_f, chK4_ok, partE_ev, partK_ok, noE_ev, sliceE_ev, slK1_ok, slK2_ok, slK3_ok, callE_ev, callK_ok, biE_ev, biK_ok, appE_ev, apK2_ok, getE_ev, geK2_ok, get2E_ev, gfK2_ok, gfK3_ok, geO_ok, asgN_ev, asgK_ok, asgT_ev, asgTK_ok, asgO_s, putE_ev, putK1_ok, putK2_ok, putK3_ok, putK4_ok, retE_ev, retK_ok, retN_ev, exprS_ev, exprK_ok, passS_ev, breakS_ev, contS_ev, ifS_ev, ifK_t, ifK_f, blkS_nil, blkS_cons, blkK_n, blkK_r, blkK_b, blkK_c, finK_r, finK_n, stT_nm, stT_tp, stTs_nil, stTs_cons, stO_s, Ev.add_int, Ev.sub_int, mul_intE, div_int, mod_intE, lt_intE, gt_intE, le_intE, ge_intE, eq_intE, ne_intE, eq_strE, ne_strE, eq_blE, ne_blE, is_nonE, is_blE, isnot_nonE, idx_lst, idx_tup, idx_refI, idx_refS, idx_dctI, idx_dctS, setL_lst, setL_str, ix4_0, ix4_1, ix4_2, ix4_3, fin_f, List.map, List.replicate, List.length_cons, List.length_nil, List.nil_append, List.cons_append, List.getElem?_cons_zero, List.getElem?_cons_succ, List.set_cons_zero, List.set_cons_succ, if_true, if_false, decide_true, decide_false, Bool.not_true, Bool.not_false, ite_true, ite_false, Ev.bi_len, lenO_s, bi_int, bi_intb, bi_abs, bi_min, bi_max, bi_gcd, bi_str, tr_bl, tr_int, Nat.sub_self, Nat.zero_add, Nat.reduceAdd, Nat.reduceSub, atI_0, atI_1, atI_2, atI_3, atI_4, Int.reduceNeg, Ev.pow_int, and_self, Bool.false_eq_true, reduceCtorEq, Option.bind_some, Option.bind_none, id_eq, Int.le_refl, Int.lt_irrefl, Int.reduceEq, Int.reduceNe, Int.reduceLT, Int.reduceLE, Int.reducePow, Int.reduceToNat, Int.reduceAbs, Nat.reducePow, Nat.reduceLT, Nat.reduceLeDiff, Nat.reduceEqDiff, Nat.reduceMul, e6]) (by rw [List.append_assoc]; exact M4 _ _) (Row.lst right) q2 q4 rl a3 (by omega) (by omega) (by omega) (by omega)
  -- the second half
  obtain ⟨p7, hp7, e8⟩ := next_eq h_law_mixed h_law_rest h_law_next 57 (b := 5000) (i := 0) (p := p6) (L := p6.lo :: (Y1 ++ [.lst (x.map fr)] ++ Y2)) rfl (hp6.mono (by omega))
  have e8 : evCall (tabOf ds) 60 "_law_next" [.ref 0] (p6.lo :: (Y1 ++ [.lst (x.map fr)] ++ Y2)) = .ok .non (p7.lo :: (Y1 ++ [.lst (x.map fr)] ++ Y2)) := e8
  obtain ⟨p8, Y3, r, w, f, rs', right', fs', e9, hp8, g1, g2, g3, g4, g5, g6, g7, g8, g9⟩ := made_eq (k := 53) (b := 4000) (c := c) (M := M + 1) (X := Y1 ++ [.lst (x.map fr)] ++ Y2) (hp7.mono (by omega)) (by omega) (by omega) (by omega)
  have e9 : evCall (tabOf ds) 60 "_law_no_solution_made" [.ref 0, .int c, .int (M + 1 : Nat)] (p7.lo :: (Y1 ++ [.lst (x.map fr)] ++ Y2)) = .ok (.tup [r, w, f]) (p8.lo :: (Y1 ++ [.lst (x.map fr)] ++ Y2 ++ Y3)) := e9
  obtain ⟨p9, Y4, r2, vs2, e10, hp9, t1, t2, t3, t4⟩ := papers_eq (k := 54) (b := 3000) g3 g9 (by omega) (by omega) (hp8.mono (by omega))
  have e10 : evCall (tabOf ds) 60 "_law_papers" [.ref 0, f] (p8.lo :: (Y1 ++ [.lst (x.map fr)] ++ Y2 ++ Y3)) = .ok r2 (p9.lo :: (Y1 ++ [.lst (x.map fr)] ++ Y2 ++ Y3 ++ Y4)) := e10
  obtain ⟨w7, w8, w9, e11⟩ := loop2 (L := p8.lo :: (Y1 ++ [.lst (x.map fr)] ++ Y2 ++ Y3)) (H := p9.lo :: (Y1 ++ [.lst (x.map fr)] ++ Y2 ++ Y3 ++ Y4)) (y0 := some (.lst (ns.map .int))) (y1 := some (.ref 0)) (y3 := some (.int (M + 1 : Nat))) (y5 := some (.ref (Y1.length + 1))) (y7 := z7) (y8 := z8) (y9 := z9) (y10 := some f) (y11 := none) (y12 := none) (v := r) (w := w) (r := r2) (c := c) (by simp -implicitDefEqProofs only [varE_ev, cE_ev, argsE_nil, argsE_cons, aK1_ok, aK2_ok, tupE_ev, tupK_ok, lstE_ev, lstK_ok, dctE_ev, newL_t, newL_f, newD_t, newD_f, binE_ev, binK1_ok, binK2_ok, idxE_ev, idxK1_ok, idxK2_ok, cmpE_ev, cmpK1_ok, cmpK2_ok, optV_s, optB_s, testB_ev, testK_ok, truE_ev, truK_ok, truO_s, notT_ev, notK_ok, andT_ev, andK_t, andK_f, orT_ev, orK_t, orK_f, andE_ev, andV1_ok, andV2_t, andV2_f, orE_ev, orV1_ok, orV2_t, orV2_f, notE_ev, notV1_ok, notV2_s, negE_ev, negK_ok, ifE_ev, ifV_t, ifV_f, chainE_ev, chK1_ok, chK2_ok, chK3_t, chK3_f, chK4_ok, partE_ev, partK_ok, noE_ev, sliceE_ev, slK1_ok, slK2_ok, slK3_ok, callE_ev, callK_ok, biE_ev, biK_ok, appE_ev, apK2_ok, getE_ev, geK2_ok, get2E_ev, gfK2_ok, gfK3_ok, geO_ok, asgN_ev, asgK_ok, asgT_ev, asgTK_ok, asgO_s, putE_ev, putK1_ok, putK2_ok, putK3_ok, putK4_ok, retE_ev, retK_ok, retN_ev, exprS_ev, exprK_ok, passS_ev, breakS_ev, contS_ev, ifS_ev, ifK_t, ifK_f, blkS_nil, blkS_cons, blkK_n, blkK_r, blkK_b, blkK_c, finK_r, finK_n, stT_nm, stT_tp, stTs_nil, stTs_cons, stO_s, Ev.add_int, Ev.sub_int, mul_intE, div_int, mod_intE, lt_intE, gt_intE, le_intE, ge_intE, eq_intE, ne_intE, eq_strE, ne_strE, eq_blE, ne_blE, is_nonE, is_blE, isnot_nonE, idx_lst, idx_tup, idx_refI, idx_refS, idx_dctI, idx_dctS, setL_lst, setL_str, ix4_0, ix4_1, ix4_2, ix4_3, fin_f, List.map, List.replicate, List.length_cons, List.length_nil, List.nil_append, List.cons_append, List.getElem?_cons_zero, List.getElem?_cons_succ, List.set_cons_zero, List.set_cons_succ, if_true, if_false, decide_true, decide_false, Bool.not_true, Bool.not_false, ite_true, ite_false, Ev.bi_len, lenO_s, bi_int, bi_intb, bi_abs, bi_min, bi_max, bi_gcd, bi_str, tr_bl, tr_int, Nat.sub_self, Nat.zero_add, Nat.reduceAdd, Nat.reduceSub, atI_0, atI_1, atI_2, atI_3, atI_4, Int.reduceNeg, Ev.pow_int, and_self, Bool.false_eq_true, reduceCtorEq, Option.bind_some, Option.bind_none, id_eq, Int.le_refl, Int.lt_irrefl, Int.reduceEq, Int.reduceNe, Int.reduceLT, Int.reduceLE, Int.reducePow, Int.reduceToNat, Int.reduceAbs, Nat.reducePow, Nat.reduceLT, Nat.reduceLeDiff, Nat.reduceEqDiff, Nat.reduceMul, e10]) (g1.keep (keep_pool _ _ _ _)) (g2.keep (keep_pool _ _ _ _)) t2 t4 (by omega) g7 g8 (by omega) (by omega) (by omega) (by omega)
  refine ⟨p9.lo :: (Y1 ++ [.lst (x.map fr)] ++ Y2 ++ Y3 ++ Y4), ?_⟩
  rw [show d_p_law.x = "law" from rfl, call_of h_p_law]
  unfold b_p_law
  generalize f_p_law_1 = C1 at *
  generalize f_p_law_2 = C2 at *
  generalize c_p_law_1 = C3 at *
  generalize c_p_law_2 = C4 at *
  simp -implicitDefEqProofs only [varE_ev, cE_ev, argsE_nil, argsE_cons, aK1_ok, aK2_ok, tupE_ev, tupK_ok, lstE_ev, lstK_ok, dctE_ev, newL_t, newL_f, newD_t, newD_f, binE_ev, binK1_ok, binK2_ok, idxE_ev, idxK1_ok, idxK2_ok, cmpE_ev, cmpK1_ok, cmpK2_ok, optV_s, optB_s, testB_ev, testK_ok, truE_ev, truK_ok, truO_s, notT_ev, notK_ok, andT_ev, andK_t, andK_f, orT_ev, orK_t, orK_f, andE_ev, andV1_ok, andV2_t, andV2_f, orE_ev, orV1_ok, orV2_t, orV2_f, notE_ev, notV1_ok, notV2_s, negE_ev, negK_ok, ifE_ev, ifV_t, ifV_f, chainE_ev, chK1_ok, chK2_ok, chK3_t, chK3_f, chK4_ok, partE_ev, partK_ok, noE_ev, sliceE_ev, slK1_ok, slK2_ok, slK3_ok, callE_ev, callK_ok, biE_ev, biK_ok, appE_ev, apK2_ok, getE_ev, geK2_ok, get2E_ev, gfK2_ok, gfK3_ok, geO_ok, asgN_ev, asgK_ok, asgT_ev, asgTK_ok, asgO_s, putE_ev, putK1_ok, putK2_ok, putK3_ok, putK4_ok, retE_ev, retK_ok, retN_ev, exprS_ev, exprK_ok, passS_ev, breakS_ev, contS_ev, ifS_ev, ifK_t, ifK_f, blkS_nil, blkS_cons, blkK_n, blkK_r, blkK_b, blkK_c, finK_r, finK_n, stT_nm, stT_tp, stTs_nil, stTs_cons, stO_s, Ev.add_int, Ev.sub_int, mul_intE, div_int, mod_intE, lt_intE, gt_intE, le_intE, ge_intE, eq_intE, ne_intE, eq_strE, ne_strE, eq_blE, ne_blE, is_nonE, is_blE, isnot_nonE, idx_lst, idx_tup, idx_refI, idx_refS, idx_dctI, idx_dctS, setL_lst, setL_str, ix4_0, ix4_1, ix4_2, ix4_3, fin_f, List.map, List.replicate, List.length_cons, List.length_nil, List.nil_append, List.cons_append, List.getElem?_cons_zero, List.getElem?_cons_succ, List.set_cons_zero, List.set_cons_succ, if_true, if_false, decide_true, decide_false, Bool.not_true, Bool.not_false, ite_true, ite_false, Ev.bi_len, lenO_s, bi_int, bi_intb, bi_abs, bi_min, bi_max, bi_gcd, bi_str, tr_bl, tr_int, Nat.sub_self, Nat.zero_add, Nat.reduceAdd, Nat.reduceSub, atI_0, atI_1, atI_2, atI_3, atI_4, Int.reduceNeg, Ev.pow_int, and_self, Bool.false_eq_true, reduceCtorEq, Option.bind_some, Option.bind_none, id_eq, Int.le_refl, Int.lt_irrefl, Int.reduceEq, Int.reduceNe, Int.reduceLT, Int.reduceLE, Int.reducePow, Int.reduceToNat, Int.reduceAbs, Nat.reducePow, Nat.reduceLT, Nat.reduceLeDiff, Nat.reduceEqDiff, Nat.reduceMul, e0, e1, e2, eM, c1', e4, c2, e5, e7, e8, e9, e11]
end K02

namespace K02
end K02
open PySem PySem.W PySem.Calls PyProof.Rows
theorem PySem.Challenge.cw_dayworth_k02_papers_of_equations_judged_holds : PySem.Challenge.rw_dayworth_k02_papers_of_equations_judged.Holds := by
  w_on; o_law
  refine HandSHeadRun.head_imp (r := OpenLaw.row PySem.Challenge.rw_dayworth_k02_papers_of_equations_judged) (q := K02.qv) (H := Ev.hookM 4 K02.P K02.ds) (ob := Ev.obM 4 K02.P K02.ds) (M := 3000) (loose := K02.loose) (d := (HandSHeadRun.topDef (OpenLaw.row PySem.Challenge.rw_dayworth_k02_papers_of_equations_judged).prog 36)) (kwd := []) (Ev.obM_eq 4 K02.P K02.ds)
    K02.run (by kernel_rfl) (by kernel_rfl) (by kernel_rfl) (by rfl) (by first | assumption | decide +kernel) (by decide +kernel) ⟨rfl, rfl, rfl, rfl, rfl, by decide +kernel⟩ ?hw ?hc
  case hw => w_witness2
  case hc => exact Ev.law_end (l := PySem.Challenge.rw_dayworth_k02_papers_of_equations_judged) (p := K02.P) (ds := K02.ds) (k := 60) (dl := K02.d_p_law) rfl (by kernel_rfl) ⟨rfl, by decide, by decide⟩ (by kernel_rfl) (by simp [K02.ds]) rfl (by decide +kernel) rfl K02.s_all K02.law_true
