import PyProof.Rows.All
import Wide.All
import OpenK.AllK
import Wide.FinOn
import HandS.ForMost
import HandS.Defaults
import HandS.IsInst
import HandS.Wide
import HandS.TupAny
import HandS.Style
import HandS.Conv
import PySem.Challenge.RW_roundstore_k02_on_and_steps
set_option Elab.async false
set_option linter.all false
set_option maxRecDepth 100000
namespace Rv
open PySem PySem.Spec PyProof.Rows L2

/-- values, with all data that never changes told whole -/
inductive Mv where
  | non | bl (b : Bool) | int (i : Int) | str (x : Str) | ty (n : String)
  | tup (xs : List Mv) | vl (xs : List Mv) | sc (xs : List Mv) | vd (ks : List Key) (xs : List Mv) | ref (a : Addr)
/-- objects that may change -/
inductive Mo where
  | lst (xs : List Mv)
  | dct (ks : List Key) (xs : List Mv)
  | ins (C : Addr) (ns : List Str) (xs : List Mv)
abbrev Mh := Addr → Option Mo
def hset (h : Mh) (a : Addr) (o : Mo) : Mh := fun b => if b = a then some o else h b
theorem hset_same {h : Mh} {a : Addr} {o : Mo} : hset h a o a = some o := by unfold hset; rw [if_pos rfl]
theorem hset_ne {h : Mh} {a b : Addr} {o : Mo} (e : b ≠ a) : hset h a o b = h b := by unfold hset; rw [if_neg e]

section
variable (K : PySem.W.Frag)
/-- a list, a tuple of the written part -/
def KL (a : Addr) (xs : List V) : Prop := ∃ (o : Obj) (its : Array Value) (n : Nat), K.lookup a = some o ∧ o.cls = .type "list" ∧ o.dict = none ∧ o.data = .seq its n ∧ its.size ≤ sizeLine ∧ Vals xs its.toList
def KT (a : Addr) (xs : List V) : Prop := ∃ (o : Obj) (its : Array Value) (n : Nat), K.lookup a = some o ∧ o.cls = .type "tuple" ∧ o.data = .seq its n ∧ its.size ≤ sizeLine ∧ Vals xs its.toList
def FzL (R : Addr → Prop) (h : Mh) (H : Hp) (a : Addr) (xs : List V) : Prop := Rd H a (.lst xs) ∧ h a = none ∧ ¬ R a
/-- the script's list may stand in the written part -/
def FzS (R : Addr → Prop) (h : Mh) (H : Hp) (a : Addr) (xs : List V) : Prop := (Rd H a (.lst xs) ∧ h a = none ∧ ¬ R a) ∨ KL K a xs
def FzT (R : Addr → Prop) (h : Mh) (H : Hp) (a : Addr) (xs : List V) : Prop := (Rd H a (.tup xs) ∧ h a = none ∧ ¬ R a) ∨ KT K a xs
def FzD (R : Addr → Prop) (h : Mh) (H : Hp) (a : Addr) (kvs : List (Key × V)) : Prop := Rd H a (.dK kvs) ∧ h a = none ∧ ¬ R a
mutual
inductive Rep (R : Addr → Prop) (h : Mh) (H : Hp) : Mv → V → Prop
  | non : Rep R h H .non .non
  | bl (b : Bool) : Rep R h H (.bl b) (.bl b)
  | int (i : Int) : Rep R h H (.int i) (.int i)
  | str (x : Str) : Rep R h H (.str x) (.str x)
  | ty (n : String) : Rep R h H (.ty n) (.ty n)
  | tup {a : Addr} {xs : List Mv} {vs : List V} : FzT K R h H a vs → Reps R h H xs vs → Rep R h H (.tup xs) (.ref a)
  | vl {a : Addr} {xs : List Mv} {vs : List V} : FzL R h H a vs → Reps R h H xs vs → Rep R h H (.vl xs) (.ref a)
  | sc {a : Addr} {xs : List Mv} {vs : List V} : FzS K R h H a vs → Reps R h H xs vs → Rep R h H (.sc xs) (.ref a)
  | vd {a : Addr} {ks : List Key} {xs : List Mv} {kvs : List (Key × V)} : FzD R h H a kvs → kvs.map (·.1) = ks → Reps R h H xs (kvs.map (·.2)) → Rep R h H (.vd ks xs) (.ref a)
  | ref (a : Addr) : Rep R h H (.ref a) (.ref a)
inductive Reps (R : Addr → Prop) (h : Mh) (H : Hp) : List Mv → List V → Prop
  | nil : Reps R h H [] []
  | cons {x : Mv} {v : V} {xs : List Mv} {vs : List V} : Rep R h H x v → Reps R h H xs vs → Reps R h H (x :: xs) (v :: vs)
end
def RepO (R : Addr → Prop) (h : Mh) (H : Hp) (a : Addr) : Mo → Prop
  | .lst xs => ∃ vs, H a = some (.lst vs) ∧ Reps K R h H xs vs
  | .dct ks xs => ∃ kvs : List (Key × V), H a = some (.dK kvs) ∧ kvs.map (·.1) = ks ∧ Reps K R h H xs (kvs.map (·.2))
  | .ins C ns xs => ∃ (dx : Addr) (fs : List (Str × V)), H a = some (.ins C dx fs) ∧ fs.map (·.1) = ns ∧ Reps K R h H xs (fs.map (·.2))
structure Sim (R : Addr → Prop) (h : Mh) (H : Hp) : Prop where
  ob : ∀ a o, h a = some o → RepO K R h H a o
  rs : ∀ a, R a → h a = none ∧ ∃ o, H a = some o
end
/-- what stood and could not change stands -/
def Ft (R : Addr → Prop) (h : Mh) (H : Hp) (R' : Addr → Prop) (h' : Mh) (H' : Hp) : Prop := ∀ a o, H a = some o → h a = none → ¬ R a → H' a = some o ∧ h' a = none ∧ ¬ R' a
structure Fr (R : Addr → Prop) (h : Mh) (H : Hp) (h' : Mh) (H' : Hp) : Prop where
  fz : Ft R h H R h' H'
  rs : ∀ a o, R a → H a = some o → H' a = some o
abbrev Plus (R : Addr → Prop) (p : Addr) : Addr → Prop := fun a => R a ∨ a = p
theorem Fr.refl {R : Addr → Prop} {h : Mh} {H : Hp} : Fr R h H h H := ⟨fun _ _ e n r => ⟨e, n, r⟩, fun _ _ _ e => e⟩
theorem Fr.trans {R : Addr → Prop} {h h1 h2 : Mh} {H H1 H2 : Hp} (a : Fr R h H h1 H1) (b : Fr R h1 H1 h2 H2) : Fr R h H h2 H2 := ⟨fun x o e n r => let ⟨e1, n1, r1⟩ := a.fz x o e n r; b.fz x o e1 n1 r1, fun x o r e => b.rs x o r (a.rs x o r e)⟩

section
variable {K : PySem.W.Frag} {R R' : Addr → Prop} {h h' : Mh} {H H' : Hp}
theorem FzS.mono {a : Addr} {xs : List V} (f : Ft R h H R' h' H') (r : FzS K R h H a xs) : FzS K R' h' H' a xs := by
  rcases r with ⟨r | ⟨o, r⟩, n, nr⟩ | r
  · obtain ⟨e, n'⟩ := f _ _ r n nr
    exact .inl ⟨.inl e, n'⟩
  · obtain ⟨e, n'⟩ := f _ _ r n nr
    exact .inl ⟨.inr ⟨o, e⟩, n'⟩
  · exact .inr r
theorem FzL.mono {a : Addr} {xs : List V} (f : Ft R h H R' h' H') (r : FzL R h H a xs) : FzL R' h' H' a xs := by
  rcases r with ⟨r | ⟨o, r⟩, n, nr⟩
  · obtain ⟨e, n'⟩ := f _ _ r n nr
    exact ⟨.inl e, n'⟩
  · obtain ⟨e, n'⟩ := f _ _ r n nr
    exact ⟨.inr ⟨o, e⟩, n'⟩
theorem FzT.mono {a : Addr} {xs : List V} (f : Ft R h H R' h' H') (r : FzT K R h H a xs) : FzT K R' h' H' a xs := by
  rcases r with ⟨r | ⟨o, r⟩, n, nr⟩ | r
  · obtain ⟨e, n'⟩ := f _ _ r n nr
    exact .inl ⟨.inl e, n'⟩
  · obtain ⟨e, n'⟩ := f _ _ r n nr
    exact .inl ⟨.inr ⟨o, e⟩, n'⟩
  · exact .inr r
theorem FzD.mono {a : Addr} {xs : List (Key × V)} (f : Ft R h H R' h' H') (r : FzD R h H a xs) : FzD R' h' H' a xs := by
  rcases r with ⟨r | ⟨o, r⟩, n, nr⟩
  · obtain ⟨e, n'⟩ := f _ _ r n nr
    exact ⟨.inl e, n'⟩
  · obtain ⟨e, n'⟩ := f _ _ r n nr
    exact ⟨.inr ⟨o, e⟩, n'⟩
mutual
theorem Rep.mono (f : Ft R h H R' h' H') : ∀ {x : Mv} {v : V}, Rep K R h H x v → Rep K R' h' H' x v
  | _, _, .non => .non
  | _, _, .bl b => .bl b
  | _, _, .int b => .int b
  | _, _, .str b => .str b
  | _, _, .ty b => .ty b
  | _, _, .tup a r => .tup (a.mono f) (r.mono f)
  | _, _, .vl a r => .vl (a.mono f) (r.mono f)
  | _, _, .sc a r => .sc (a.mono f) (r.mono f)
  | _, _, .vd a e r => .vd (a.mono f) e (r.mono f)
  | _, _, .ref a => .ref a
theorem Reps.mono (f : Ft R h H R' h' H') : ∀ {x : List Mv} {v : List V}, Reps K R h H x v → Reps K R' h' H' x v
  | _, _, .nil => .nil
  | _, _, .cons r rs => .cons (r.mono f) (rs.mono f)
end
theorem Reps.length : ∀ {xs : List Mv} {vs : List V}, Reps K R h H xs vs → vs.length = xs.length
  | _, _, .nil => rfl
  | _, _, .cons _ t => congrArg Nat.succ t.length
theorem Reps.get : ∀ {xs : List Mv} {vs : List V} {i : Nat} {x : Mv}, Reps K R h H xs vs → xs[i]? = some x → ∃ v, vs[i]? = some v ∧ Rep K R h H x v
  | _, _, _, _, .nil, e => by simp at e
  | _, _, 0, _, .cons r _, e => by simp at e; subst e; exact ⟨_, rfl, r⟩
  | _, _, i + 1, x, .cons _ t, e => by
    obtain ⟨v, e1, r⟩ := Reps.get (i := i) t (by simpa using e)
    exact ⟨v, by simpa using e1, r⟩
theorem Reps.getV : ∀ {xs : List Mv} {vs : List V} {i : Nat} {v : V}, Reps K R h H xs vs → vs[i]? = some v → ∃ x, xs[i]? = some x ∧ Rep K R h H x v
  | _, _, _, _, .nil, e => by simp at e
  | _, _, 0, _, .cons r _, e => by simp at e; subst e; exact ⟨_, rfl, r⟩
  | _, _, i + 1, x, .cons _ t, e => by
    obtain ⟨v, e1, r⟩ := Reps.getV (i := i) t (by simpa using e)
    exact ⟨v, by simpa using e1, r⟩
theorem Reps.append : ∀ {xs ys : List Mv} {vs ws : List V}, Reps K R h H xs vs → Reps K R h H ys ws → Reps K R h H (xs ++ ys) (vs ++ ws)
  | _, _, _, _, .nil, s => s
  | _, _, _, _, .cons r t, s => .cons r (t.append s)
theorem Reps.take : ∀ {xs : List Mv} {vs : List V} (n : Nat), Reps K R h H xs vs → Reps K R h H (xs.take n) (vs.take n)
  | _, _, 0, _ => .nil
  | _, _, _ + 1, .nil => .nil
  | _, _, n + 1, .cons r t => .cons r (t.take n)
theorem Reps.drop : ∀ {xs : List Mv} {vs : List V} (n : Nat), Reps K R h H xs vs → Reps K R h H (xs.drop n) (vs.drop n)
  | _, _, 0, r => r
  | _, _, _ + 1, .nil => .nil
  | _, _, n + 1, .cons _ t => t.drop n
theorem Reps.set : ∀ {xs : List Mv} {vs : List V} {x : Mv} {v : V} (i : Nat), Rep K R h H x v → Reps K R h H xs vs → Reps K R h H (xs.set i x) (vs.set i v)
  | _, _, _, _, _, _, .nil => .nil
  | _, _, _, _, 0, q, .cons _ t => .cons q t
  | _, _, _, _, i + 1, q, .cons r t => .cons r (t.set i q)
theorem Reps.ints : ∀ {ns : List Int} {vs : List V}, Reps K R h H (ns.map Mv.int) vs → vs = ns.map V.int
  | [], _, .nil => rfl
  | _ :: _, _, .cons (.int _) t => by rw [t.ints]; rfl
theorem Reps.ofInts : ∀ {ns : List Int}, Reps K R h H (ns.map Mv.int) (ns.map V.int)
  | [] => .nil
  | _ :: _ => .cons (.int _) Reps.ofInts
theorem Reps.bls : ∀ {ns : List Bool} {vs : List V}, Reps K R h H (ns.map Mv.bl) vs → vs = ns.map V.bl
  | [], _, .nil => rfl
  | _ :: _, _, .cons (.bl _) t => by rw [t.bls]; rfl
theorem Reps.ofBls : ∀ {ns : List Bool}, Reps K R h H (ns.map Mv.bl) (ns.map V.bl)
  | [] => .nil
  | _ :: _ => .cons (.bl _) Reps.ofBls
theorem Reps.strs : ∀ {ns : List Str} {vs : List V}, Reps K R h H (ns.map Mv.str) vs → vs = ns.map V.str
  | [], _, .nil => rfl
  | _ :: _, _, .cons (.str _) t => by rw [t.strs]; rfl
theorem Reps.ofStrs : ∀ {ns : List Str}, Reps K R h H (ns.map Mv.str) (ns.map V.str)
  | [] => .nil
  | _ :: _ => .cons (.str _) Reps.ofStrs
theorem RepO.mono {a : Addr} {o : Mo} (f : Ft R h H R' h' H') (e : H' a = H a) (r : RepO K R h H a o) : RepO K R' h' H' a o := by
  cases o with
  | lst xs => obtain ⟨vs, e1, r⟩ := r; exact ⟨vs, e.trans e1, r.mono f⟩
  | dct ks xs => obtain ⟨vs, e1, e2, r⟩ := r; exact ⟨vs, e.trans e1, e2, r.mono f⟩
  | ins C ns xs => obtain ⟨dx, vs, e1, e2, r⟩ := r; exact ⟨dx, vs, e.trans e1, e2, r.mono f⟩
theorem Sim.there {a : Addr} {o : Mo} (s : Sim K R h H) (e : h a = some o) : ∃ u, H a = some u := by
  have r := s.ob a o e
  cases o with
  | lst xs => obtain ⟨vs, e1, _⟩ := r; exact ⟨_, e1⟩
  | dct ks xs => obtain ⟨vs, e1, _⟩ := r; exact ⟨_, e1⟩
  | ins C ns xs => obtain ⟨dx, vs, e1, _⟩ := r; exact ⟨_, e1⟩
theorem Sim.fresh {a : Addr} (s : Sim K R h H) (e : H a = none) : h a = none := by
  cases q : h a with
  | none => rfl
  | some o =>
    obtain ⟨u, e1⟩ := s.there q
    rw [e] at e1; cases e1
theorem Sim.freshR {a : Addr} (s : Sim K R h H) (e : H a = none) : ¬ R a := fun r => by
  obtain ⟨_, o, e1⟩ := s.rs a r
  rw [e] at e1; cases e1
/-- a new thing that does not change -/
theorem Fr.new {p : Addr} {o : HO} (e : H p = none) : Fr R h H h (upd H p o) := ⟨fun a u ea n r => ⟨by rw [upd_ne (ne_of_none ea e)]; exact ea, n, r⟩, fun a u _ ea => by rw [upd_ne (ne_of_none ea e)]; exact ea⟩
theorem Sim.new {p : Addr} {o : HO} (s : Sim K R h H) (e : H p = none) : Sim K R h (upd H p o) := ⟨fun a u ea => by
  obtain ⟨w, hw⟩ := s.there ea
  exact (s.ob a u ea).mono (Fr.new e).fz (upd_ne (ne_of_none hw e)), fun a r => by
  obtain ⟨n, u, e1⟩ := s.rs a r
  exact ⟨n, u, by rw [upd_ne (ne_of_none e1 e)]; exact e1⟩⟩
/-- a new thing that is reserved -/
theorem Ft.plus {p : Addr} {o : HO} (e : H p = none) : Ft R h H (Plus R p) h (upd H p o) := fun a u ea n r => ⟨by rw [upd_ne (ne_of_none ea e)]; exact ea, n, fun z => z.elim r (ne_of_none ea e)⟩
theorem Sim.plus {p : Addr} {o : HO} (s : Sim K R h H) (e : H p = none) : Sim K (Plus R p) h (upd H p o) := ⟨fun a u ea => by
  obtain ⟨w, hw⟩ := s.there ea
  exact (s.ob a u ea).mono (Ft.plus e) (upd_ne (ne_of_none hw e)), fun a r => by
  rcases r with r | rfl
  · obtain ⟨n, u, e1⟩ := s.rs a r
    exact ⟨n, u, by rw [upd_ne (ne_of_none e1 e)]; exact e1⟩
  · exact ⟨s.fresh e, _, upd_same⟩⟩
/-- what was reserved is laid open: it does not change any more, or it is an object -/
theorem Ft.free {p : Addr} : Ft (Plus R p) h H R h H := fun _ _ e n r => ⟨e, n, fun z => r (.inl z)⟩
theorem Sim.free {p : Addr} (s : Sim K (Plus R p) h H) : Sim K R h H := ⟨fun a u ea => (s.ob a u ea).mono Ft.free rfl, fun a r => s.rs a (.inl r)⟩
theorem Ft.obj {p : Addr} {m : Mo} : Ft (Plus R p) h H R (hset h p m) H := fun a _ e n r => ⟨e, by rw [hset_ne fun z => r (.inr z)]; exact n, fun z => r (.inl z)⟩
theorem Sim.obj {p : Addr} {m : Mo} (s : Sim K (Plus R p) h H) (np : ¬ R p) (r : RepO K R (hset h p m) H p m) : Sim K R (hset h p m) H := ⟨fun a u ea => by
  by_cases q : a = p
  · subst q; rw [hset_same] at ea; cases ea; exact r
  · rw [hset_ne q] at ea
    exact (s.ob a u ea).mono Ft.obj rfl, fun a ra => by
  obtain ⟨n, e⟩ := s.rs a (.inl ra)
  exact ⟨by rw [hset_ne (show a ≠ p from fun z => np (z ▸ ra))]; exact n, e⟩⟩
/-- what is reserved changes -/
theorem Ft.putR {p : Addr} {o : HO} (rp : R p) : Ft R h H R h (upd H p o) := fun a u ea n r => ⟨by rw [upd_ne (show a ≠ p from fun z => r (z ▸ rp))]; exact ea, n, r⟩
theorem Sim.putR {p : Addr} {o : HO} (s : Sim K R h H) (rp : R p) : Sim K R h (upd H p o) := ⟨fun a u ea => by
  have ne : a ≠ p := fun z => by rw [z, (s.rs p rp).1] at ea; cases ea
  exact (s.ob a u ea).mono (Ft.putR rp) (upd_ne ne), fun a r => by
  obtain ⟨n, u, e⟩ := s.rs a r
  by_cases q : a = p
  · subst q; exact ⟨n, _, upd_same⟩
  · exact ⟨n, u, by rw [upd_ne q]; exact e⟩⟩
/-- a thing that changes -/
theorem Fr.put {p : Addr} {o : HO} {m m0 : Mo} (s : Sim K R h H) (e : h p = some m0) : Fr R h H (hset h p m) (upd H p o) := by
  have ne : ∀ a, h a = none → a ≠ p := fun a n q => by rw [q, e] at n; cases n
  exact ⟨fun a u ea n r => ⟨by rw [upd_ne (ne a n)]; exact ea, by rw [hset_ne (ne a n)]; exact n, r⟩, fun a u r ea => by rw [upd_ne (ne a (s.rs a r).1)]; exact ea⟩
theorem Sim.put {p : Addr} {o : HO} {m m0 : Mo} (s : Sim K R h H) (e : h p = some m0) (r : RepO K R (hset h p m) (upd H p o) p m) : Sim K R (hset h p m) (upd H p o) := ⟨fun a u ea => by
  by_cases q : a = p
  · subst q; rw [hset_same] at ea; cases ea; exact r
  · rw [hset_ne q] at ea
    exact (s.ob a u ea).mono (Fr.put s e).fz (upd_ne q), fun a ra => by
  have ne : a ≠ p := fun q => by rw [q] at ra; rw [(s.rs p ra).1] at e; cases e
  obtain ⟨n, u, e1⟩ := s.rs a ra
  exact ⟨by rw [hset_ne ne]; exact n, u, by rw [upd_ne ne]; exact e1⟩⟩
end

/-! ### the slots -/
abbrev Env := List (Option Mv)
inductive RelE (K : PySem.W.Frag) (R : Addr → Prop) (h : Mh) (H : Hp) : Env → L2.St → Prop
  | nil : RelE K R h H [] []
  | no {v : Option V} {e : Env} {σ : L2.St} : RelE K R h H e σ → RelE K R h H (none :: e) (v :: σ)
  | yes {x : Mv} {v : V} {e : Env} {σ : L2.St} : Rep K R h H x v → RelE K R h H e σ → RelE K R h H (some x :: e) (some v :: σ)
def getE : Env → Nat → Option Mv
  | [], _ => none
  | x :: _, 0 => x
  | _ :: r, i + 1 => getE r i
def setE : Env → Nat → Mv → Env
  | [], _, _ => []
  | _ :: r, 0, m => some m :: r
  | x :: r, i + 1, m => x :: setE r i m
section
variable {K : PySem.W.Frag} {R R' : Addr → Prop} {h h' : Mh} {H H' : Hp}
theorem RelE.mono (f : Ft R h H R' h' H') : ∀ {e : Env} {σ : L2.St}, RelE K R h H e σ → RelE K R' h' H' e σ
  | _, _, .nil => .nil
  | _, _, .no t => .no (t.mono f)
  | _, _, .yes r t => .yes (r.mono f) (t.mono f)
theorem RelE.get : ∀ {e : Env} {σ : L2.St} {i : Nat} {m : Mv}, RelE K R h H e σ → getE e i = some m → ∃ v, σ[i]? = some (some v) ∧ Rep K R h H m v
  | _, _, _, _, .nil, q => by simp [getE] at q
  | _, _, 0, _, .no _, q => by simp [getE] at q
  | _, _, 0, _, .yes r _, q => by simp [getE] at q; subst q; exact ⟨_, rfl, r⟩
  | _, _, i + 1, _, .no t, q => by
    obtain ⟨v, e, r⟩ := RelE.get (i := i) t (by simpa [getE] using q)
    exact ⟨v, by simpa using e, r⟩
  | _, _, i + 1, _, .yes _ t, q => by
    obtain ⟨v, e, r⟩ := RelE.get (i := i) t (by simpa [getE] using q)
    exact ⟨v, by simpa using e, r⟩
theorem RelE.set : ∀ {e : Env} {σ : L2.St} {m : Mv} {v : V} (i : Nat), Rep K R h H m v → RelE K R h H e σ → RelE K R h H (setE e i m) (σ.set i (some v))
  | _, _, _, _, _, _, .nil => .nil
  | _, _, _, _, 0, q, .no t => .yes q t
  | _, _, _, _, 0, q, .yes _ t => .yes q t
  | _, _, _, _, i + 1, q, .no t => .no (t.set i q)
  | _, _, _, _, i + 1, q, .yes r t => .yes r (t.set i q)
/-- slots forgotten on both sides -/
def wipeE (e : Env) : List Nat → Env
  | [] => e
  | v :: vs => go (wipeE e vs) v
where go : Env → Nat → Env
  | [], _ => []
  | _ :: r, 0 => none :: r
  | x :: r, i + 1 => x :: go r i
theorem RelE.wipe1 : ∀ {e : Env} {σ : L2.St} (i : Nat) (o : Option V), RelE K R h H e σ → RelE K R h H (wipeE.go e i) (σ.set i o)
  | _, _, _, _, .nil => .nil
  | _, _, 0, _, .no t => .no t
  | _, _, 0, _, .yes _ t => .no t
  | _, _, i + 1, _, .no t => .no (t.wipe1 i _)
  | _, _, i + 1, _, .yes r t => .yes r (t.wipe1 i _)
theorem RelE.wipe {e : Env} {σ : L2.St} (t : RelE K R h H e σ) : ∀ vs : List Nat, RelE K R h H (wipeE e vs) (L2.wipe σ vs)
  | [] => t
  | v :: vs => (t.wipe vs).wipe1 v _
theorem RelE.start : ∀ {xs : List Mv} {vs : List V} (n : Nat), Reps K R h H xs vs → RelE K R h H (xs.map some ++ List.replicate n none) (vs.map some ++ List.replicate n none)
  | _, _, 0, .nil => .nil
  | _, _, n + 1, .nil => .no (RelE.start n .nil)
  | _, _, n, .cons r t => .yes r (RelE.start n t)
end
end Rv

namespace Rv
open PySem PySem.Spec PyProof.Rows L2

abbrev WE := Env → Mh → (Mv → Mh → Prop) → Prop
abbrev WT := Env → Mh → (Bool → Mh → Prop) → Prop
abbrev WA := Env → Mh → (List Mv → Mh → Prop) → Prop
structure ME where
  nx : Env → Mh → Prop
  rt : Mv → Mh → Prop
  bk : Env → Mh → Prop := fun _ _ => False
  ct : Env → Mh → Prop := fun _ _ => False
abbrev WS := ME → Env → Mh → Prop
abbrev Sig := List Mv → Mh → (Mv → Mh → Prop) → Prop
section
variable (K : PySem.W.Frag)
def Lf (w : WE) : TE := fun σ H Q => ∃ R e h Qm, Sim K R h H ∧ RelE K R h H e σ ∧ w e h Qm ∧ ∀ m h' v H', Qm m h' → Fr R h H h' H' → Sim K R h' H' → Rep K R h' H' m v → Q v H'
def LfT (w : WT) : TT := fun σ H Q => ∃ R e h Qm, Sim K R h H ∧ RelE K R h H e σ ∧ w e h Qm ∧ ∀ b h' H', Qm b h' → Fr R h H h' H' → Sim K R h' H' → Q b H'
def LfA (w : WA) : TA := fun σ H Q => ∃ R e h Qm, Sim K R h H ∧ RelE K R h H e σ ∧ w e h Qm ∧ ∀ ms h' vs H', Qm ms h' → Fr R h H h' H' → Sim K R h' H' → Reps K R h' H' ms vs → Q vs H'
/-- a list that is new -/
def LfL (w : WA) : TE := fun σ H Q => ∃ R e h Qm, Sim K R h H ∧ RelE K R h H e σ ∧ w e h Qm ∧ ∀ ms h' p vs H', Qm ms h' → Fr R h H h' H' → Sim K (Plus R p) h' H' → ¬ R p → (h p = none → H p = none) → H' p = some (.lst vs) → Reps K (Plus R p) h' H' ms vs → Q (.ref p) H'
structure EndsOk (R : Addr → Prop) (h : Mh) (H : Hp) (Dm : ME) (D : Ends) : Prop where
  nx : ∀ e' h' σ' H', Dm.nx e' h' → Fr R h H h' H' → Sim K R h' H' → RelE K R h' H' e' σ' → D.nx σ' H'
  rt : ∀ m h' v H', Dm.rt m h' → Fr R h H h' H' → Sim K R h' H' → Rep K R h' H' m v → D.rt v H'
  bk : ∀ e' h' σ' H', Dm.bk e' h' → Fr R h H h' H' → Sim K R h' H' → RelE K R h' H' e' σ' → D.bk σ' H'
  ct : ∀ e' h' σ' H', Dm.ct e' h' → Fr R h H h' H' → Sim K R h' H' → RelE K R h' H' e' σ' → D.ct σ' H'
def LfS (w : WS) : TS := fun D σ H => ∃ R e h Dm, Sim K R h H ∧ RelE K R h H e σ ∧ w Dm e h ∧ EndsOk K R h H Dm D
/-- what is wanted of a value, from what is wanted of the model's -/
def Want (R : Addr → Prop) (h : Mh) (H : Hp) (Qm : Mv → Mh → Prop) (Q : VK) : Prop := ∀ m h' v H', Qm m h' → Fr R h H h' H' → Sim K R h' H' → Rep K R h' H' m v → Q v H'
end
section
variable {K : PySem.W.Frag} {R : Addr → Prop} {h h1 : Mh} {H H1 : Hp}
theorem Want.go {Qm : Mv → Mh → Prop} {Q : VK} {m : Mv} {v : V} (w : Want K R h H Qm Q) (s : Sim K R h H) (q : Qm m h) (r : Rep K R h H m v) : Q v H := w m h v H q Fr.refl s r
theorem Want.back {Qm : Mv → Mh → Prop} {Q : VK} (w : Want K R h H Qm Q) (f : Fr R h H h1 H1) : Want K R h1 H1 Qm Q := fun m h' v H' q f' s r => w m h' v H' q (f.trans f') s r
theorem EndsOk.back {Dm : ME} {D : Ends} (w : EndsOk K R h H Dm D) (f : Fr R h H h1 H1) : EndsOk K R h1 H1 Dm D :=
  ⟨fun e' h' σ' H' q f' => w.nx e' h' σ' H' q (f.trans f'), fun m h' v H' q f' => w.rt m h' v H' q (f.trans f'), fun e' h' σ' H' q f' => w.bk e' h' σ' H' q (f.trans f'), fun e' h' σ' H' q f' => w.ct e' h' σ' H' q (f.trans f')⟩
end
section
variable {X : Cx} {a b c e : Expr} {st : Stmt} {pos : Pos}
theorem pe_weak {t t' : TE} (h : PE X e t) (w : ∀ σ H Q, t' σ H Q → t σ H Q) : PE X e t' := ⟨fun pins s σ H Q I q => h.run pins s σ H Q I (w _ _ _ q)⟩
theorem pt_weak {t t' : TT} (h : PT X e t) (w : ∀ σ H Q, t' σ H Q → t σ H Q) : PT X e t' := ⟨fun pins s σ H Q I q => h.run pins s σ H Q I (w _ _ _ q)⟩
theorem pw_weak {t t' : TT} (h : PW X e t) (w : ∀ σ H Q, t' σ H Q → t σ H Q) : PW X e t' := ⟨fun wh pins s σ H Q I q => h.run wh pins s σ H Q I (w _ _ _ q)⟩
theorem pts_weak {es : List Expr} {t t' : TT} (h : PTs X es t) (w : ∀ σ H Q, t' σ H Q → t σ H Q) : PTs X es t' := ⟨fun pins s σ H Q I q => h.run pins s σ H Q I (w _ _ _ q)⟩
theorem pa_weak {es : List Expr} {t t' : TA} (h : PA X es t) (w : ∀ σ H Q, t' σ H Q → t σ H Q) : PA X es t' := ⟨fun ps pins s σ H Q I q => h.run ps pins s σ H Q I (w _ _ _ q)⟩
theorem pk_weak {es : List Keyword} {t t' : TA} (h : PK X es t) (w : ∀ σ H Q, t' σ H Q → t σ H Q) : PK X es t' := ⟨fun ps pins s σ H Q I q => h.run ps pins s σ H Q I (w _ _ _ q)⟩
theorem ps_weak {t t' : TS} (h : PS X st t) (w : ∀ D σ H, t' D σ H → t D σ H) : PS X st t' := ⟨fun pins s σ H D I q => h.run pins s σ H D I (w _ _ _ q)⟩
theorem pss_weak {sts : List Stmt} {t t' : TS} (h : PSs X sts t) (w : ∀ D σ H, t' D σ H → t D σ H) : PSs X sts t' := ⟨fun pins s σ H D I q => h.run pins s σ H D I (w _ _ _ q)⟩

/-! ### names, constants -/
def wVar (i : Nat) : WE := fun e h Q => match getE e i with | some m => Q m h | none => False
def wC (m : Mv) : WE := fun _ h Q => Q m h
theorem j_var {i : Nat} (p : PE X e (tVar i)) : PE X e (Lf X.K (wVar i)) := pe_weak p fun σ H Q ⟨R, e, h, Qm, s, r, q, k⟩ => by
  unfold wVar at q
  cases g : getE e i with
  | none => rw [g] at q; exact q.elim
  | some m =>
    rw [g] at q
    obtain ⟨v, e1, r1⟩ := r.get g
    exact ⟨v, e1, k m h v H q Fr.refl s r1⟩
theorem j_int {i : Int} {j : Nat} : PE X (.Constant (.int i) j pos) (Lf X.K (wC (.int i))) := pe_weak pe_int fun σ H Q ⟨R, e, h, Qm, s, r, q, k⟩ => k _ h _ H q Fr.refl s (.int i)
theorem j_bl {i : Bool} {j : Nat} : PE X (.Constant (.bool i) j pos) (Lf X.K (wC (.bl i))) := pe_weak pe_bl fun σ H Q ⟨R, e, h, Qm, s, r, q, k⟩ => k _ h _ H q Fr.refl s (.bl i)
theorem j_str {i : Str} {j : Nat} : PE X (.Constant (.str i) j pos) (Lf X.K (wC (.str i))) := pe_weak pe_str fun σ H Q ⟨R, e, h, Qm, s, r, q, k⟩ => k _ h _ H q Fr.refl s (.str i)
theorem j_non {j : Nat} : PE X (.Constant .none j pos) (Lf X.K (wC .non)) := pe_weak pe_non fun σ H Q ⟨R, e, h, Qm, s, r, q, k⟩ => k _ h _ H q Fr.refl s .non
/-- a constant of the module, a built-in class -/
def KRep (K : PySem.W.Frag) (m : Mv) (v : V) : Prop := ∀ R h H, Rep K R h H m v
theorem j_glob {x : Str} {m : Mv} {v : V} (p : PE X (.Name x pos) (tC v)) (r0 : KRep X.K m v) : PE X (.Name x pos) (Lf X.K (wC m)) := pe_weak p fun σ H Q ⟨R, e, h, Qm, s, r, q, k⟩ => k _ h _ H q Fr.refl s (r0 R h H)

/-! ### operators -/
abbrev F2 := Mv → Mv → Mh → (Mv → Mh → Prop) → Prop
abbrev F1 := Mv → Mh → (Mv → Mh → Prop) → Prop
def OpM (K : PySem.W.Frag) (r : R2) (f : F2) : Prop := ∀ {x y : V} {mx my : Mv} {R : Addr → Prop} {h : Mh} {H : Hp} {Qm : Mv → Mh → Prop} {Q : VK}, Sim K R h H → Rep K R h H mx x → Rep K R h H my y → f mx my h Qm → Want K R h H Qm Q → r x y H Q
def UnM (K : PySem.W.Frag) (r : V → Hp → VK → Prop) (f : F1) : Prop := ∀ {x : V} {mx : Mv} {R : Addr → Prop} {h : Mh} {H : Hp} {Qm : Mv → Mh → Prop} {Q : VK}, Sim K R h H → Rep K R h H mx x → f mx h Qm → Want K R h H Qm Q → r x H Q
def wB (f : F2) (wa wb : WE) : WE := fun e h Q => wa e h fun x h1 => wb e h1 fun y h2 => f x y h2 Q
def wU (f : F1) (wa : WE) : WE := fun e h Q => wa e h fun x h1 => f x h1 Q
theorem j_tOp {K : PySem.W.Frag} {r : R2} {f : F2} {wa wb : WE} (m : OpM K r f) (σ : L2.St) (H : Hp) (Q : VK) (q : Lf K (wB f wa wb) σ H Q) : tOp r (Lf K wa) (Lf K wb) σ H Q := by
  obtain ⟨R, e, h, Qm, s, rr, q, k⟩ := q
  refine ⟨R, e, h, _, s, rr, q, fun m1 h1 v1 H1 q1 f1 s1 r1 => ⟨R, e, h1, _, s1, rr.mono f1.fz, q1, fun m2 h2 v2 H2 q2 f2 s2 r2 => m s2 (r1.mono f2.fz) r2 q2 fun m3 h3 v3 H3 q3 f3 s3 r3 => k m3 h3 v3 H3 q3 ((f1.trans f2).trans f3) s3 r3⟩⟩
theorem j_bin {op : Operator} {r : R2} {f : F2} {wa wb : WE} (ho : OpR X (binaryOp op) r) (m : OpM X.K r f) (ha : PE X a (Lf X.K wa)) (hb : PE X b (Lf X.K wb)) : PE X (.BinOp a op b pos) (Lf X.K (wB f wa wb)) := pe_weak (pe_op ho ha hb) (j_tOp m)
theorem j_un {op : UnaryOp} {r : V → Hp → VK → Prop} {f : F1} {wa : WE} (ho : UnR X (unaryOp op) r) (m : UnM X.K r f) (ha : PE X a (Lf X.K wa)) : PE X (.UnaryOp op a pos) (Lf X.K (wU f wa)) := pe_weak (pe_un ho ha) fun σ H Q ⟨R, e, h, Qm, s, rr, q, k⟩ =>
  ⟨R, e, h, _, s, rr, q, fun m1 h1 v1 H1 q1 f1 s1 r1 => m s1 r1 q1 fun m3 h3 v3 H3 q3 f3 s3 r3 => k m3 h3 v3 H3 q3 (f1.trans f3) s3 r3⟩
theorem j_ix {r : R2} {f : F2} {wa wb : WE} (ho : IxR X r) (m : OpM X.K r f) (ha : PE X a (Lf X.K wa)) (hb : PE X b (Lf X.K wb)) (hs : PlainIx b) : PE X (.Subscript a b pos) (Lf X.K (wB f wa wb)) := pe_weak (pe_ix ho ha hb hs) (j_tOp m)
theorem j_cmp {op : CmpOp} {r : R2} {f : F2} {wa wb : WE} (ho : OpR X (compareOp op) r) (m : OpM X.K r f) (ha : PE X a (Lf X.K wa)) (hb : PE X b (Lf X.K wb)) (hm : behindInMarks op b = false) : PE X (.Compare a [op] [b] pos) (Lf X.K (wB f wa wb)) := pe_weak (pe_cmpR ho ha hb hm) (j_tOp m)
/-- a test of an expression that is a truth -/
def wTst (w : WE) : WT := fun e h Q => w e h fun m h' => match m with | .bl b => Q b h' | _ => False
theorem j_tst {K : PySem.W.Frag} {w : WE} (σ : L2.St) (H : Hp) (Q : Bool → Hp → Prop) (q : LfT K (wTst w) σ H Q) : Lf K w σ H fun x H' => ∃ k, x = .bl k ∧ Q k H' := by
  obtain ⟨R, e, h, Qm, s, rr, q, k⟩ := q
  refine ⟨R, e, h, _, s, rr, q, fun m1 h1 v1 H1 q1 f1 s1 r1 => ?_⟩
  cases r1 <;> first | exact q1.elim | exact ⟨_, rfl, k _ h1 H1 q1 f1 s1⟩
theorem j_tcmp {op : CmpOp} {r : R2} {f : F2} {wa wb : WE} (ho : OpR X (compareOp op) r) (m : OpM X.K r f) (ha : PE X a (Lf X.K wa)) (hb : PE X b (Lf X.K wb)) (hm : behindInMarks op b = false) : PT X (.Compare a [op] [b] pos) (LfT X.K (wTst (wB f wa wb))) :=
  pt_weak (pt_cmpR ho ha hb hm) fun σ H Q q => j_tOp m σ H _ (j_tst σ H Q q)
theorem j_tval {w : WE} (h : PE X e (Lf X.K w)) (he : ∀ whole, isTrue e X.env whole = (do let v ← whole; standAt e.pos; holding [v] (truthy v)) := by intro _; rfl) : PT X e (LfT X.K (wTst w)) := pt_weak (pt_val h he) fun σ H Q q => j_tst σ H Q q
/-- a < b < c -/
def wChn (f g : F2) (wa wb wc : WE) : WE := fun e h Q => wa e h fun x h1 => wb e h1 fun y h2 => f x y h2 fun z h3 => match z with | .bl k => (k = true → wc e h3 fun u h4 => g y u h4 Q) ∧ (k = false → Q (.bl false) h3) | _ => False
theorem j_tChain {K : PySem.W.Frag} {r r' : R2} {f g : F2} {wa wb wc : WE} (m : OpM K r f) (m' : OpM K r' g) (σ : L2.St) (H : Hp) (Q : VK) (q : Lf K (wChn f g wa wb wc) σ H Q) : tChain r r' (Lf K wa) (Lf K wb) (Lf K wc) σ H Q := by
  obtain ⟨R, e, h, Qm, s, rr, q, k⟩ := q
  refine ⟨R, e, h, _, s, rr, q, fun m1 h1 v1 H1 q1 f1 s1 r1 => ⟨R, e, h1, _, s1, rr.mono f1.fz, q1, fun m2 h2 v2 H2 q2 f2 s2 r2 => m s2 (r1.mono f2.fz) r2 q2 fun m3 h3 v3 H3 q3 f3 s3 r3 => ?_⟩⟩
  cases r3 <;> first | exact q3.elim | skip
  rename_i kk
  refine ⟨kk, rfl, ?_⟩
  cases kk with
  | true => exact ⟨R, e, h3, _, s3, ((rr.mono f1.fz).mono f2.fz).mono f3.fz, q3.1 rfl, fun m4 h4 v4 H4 q4 f4 s4 r4 => m' s4 ((r2.mono f3.fz).mono f4.fz) r4 q4 fun m5 h5 v5 H5 q5 f5 s5 r5 => k m5 h5 v5 H5 q5 ((((f1.trans f2).trans f3).trans f4).trans f5) s5 r5⟩
  | false => exact k _ h3 _ H3 (q3.2 rfl) ((f1.trans f2).trans f3) s3 (.bl false)
theorem j_chn {op op' : CmpOp} {r r' : R2} {f g : F2} {wa wb wc : WE} (ho : OpR X (compareOp op) r) (ho' : OpR X (compareOp op') r') (m : OpM X.K r f) (m' : OpM X.K r' g) (ha : PE X a (Lf X.K wa)) (hb : PE X b (Lf X.K wb)) (hc : PE X c (Lf X.K wc)) (hm : lastMarks [op, op'] [b, c] = false := by with_unfolding_all rfl) :
    PE X (.Compare a [op, op'] [b, c] pos) (Lf X.K (wChn f g wa wb wc)) := pe_weak (pe_chain ho ho' ha hb hc hm) (j_tChain m m')
theorem j_tchn {op op' : CmpOp} {r r' : R2} {f g : F2} {wa wb wc : WE} (ho : OpR X (compareOp op) r) (ho' : OpR X (compareOp op') r') (m : OpM X.K r f) (m' : OpM X.K r' g) (ha : PE X a (Lf X.K wa)) (hb : PE X b (Lf X.K wb)) (hc : PE X c (Lf X.K wc)) (hm : lastMarks [op, op'] [b, c] = false := by with_unfolding_all rfl) :
    PT X (.Compare a [op, op'] [b, c] pos) (LfT X.K (wTst (wChn f g wa wb wc))) := pt_weak (pt_chain ho ho' ha hb hc hm) fun σ H Q q => j_tChain m m' σ H _ (j_tst σ H Q q)

/-! ### and, or, not, if else -/
def wAndT (t u : WT) : WT := fun e h Q => t e h fun c h1 => (c = true → u e h1 Q) ∧ (c = false → Q false h1)
def wOrT (t u : WT) : WT := fun e h Q => t e h fun c h1 => (c = true → Q true h1) ∧ (c = false → u e h1 Q)
def wNotT (t : WT) : WT := fun e h Q => t e h fun c h1 => Q (!c) h1
variable {rest : List Expr}
theorem j_and1 {t : WT} (ha : PT X a (LfT X.K t)) : PW X (.BoolOp .And [a] pos) (LfT X.K t) := pw_and1 ha
theorem j_or1 {t : WT} (ha : PT X a (LfT X.K t)) : PW X (.BoolOp .Or [a] pos) (LfT X.K t) := pw_or1 ha
theorem j_and {t u : WT} (ha : PT X a (LfT X.K t)) (hb : PW X (.BoolOp .And (b :: rest) pos) (LfT X.K u)) : PW X (.BoolOp .And (a :: b :: rest) pos) (LfT X.K (wAndT t u)) := pw_weak (pw_and ha hb) fun σ H Q ⟨R, e, h, Qm, s, rr, q, k⟩ =>
  ⟨R, e, h, _, s, rr, q, fun c h1 H1 q1 f1 s1 => by
    cases c with
    | true => exact ⟨R, e, h1, _, s1, rr.mono f1.fz, q1.1 rfl, fun m3 h3 H3 q3 f3 s3 => k m3 h3 H3 q3 (f1.trans f3) s3⟩
    | false => exact k _ h1 H1 (q1.2 rfl) f1 s1⟩
theorem j_or {t u : WT} (ha : PT X a (LfT X.K t)) (hb : PW X (.BoolOp .Or (b :: rest) pos) (LfT X.K u)) : PW X (.BoolOp .Or (a :: b :: rest) pos) (LfT X.K (wOrT t u)) := pw_weak (pw_or ha hb) fun σ H Q ⟨R, e, h, Qm, s, rr, q, k⟩ =>
  ⟨R, e, h, _, s, rr, q, fun c h1 H1 q1 f1 s1 => by
    cases c with
    | true => exact k _ h1 H1 (q1.1 rfl) f1 s1
    | false => exact ⟨R, e, h1, _, s1, rr.mono f1.fz, q1.2 rfl, fun m3 h3 H3 q3 f3 s3 => k m3 h3 H3 q3 (f1.trans f3) s3⟩⟩
theorem j_not {t : WT} (ha : PT X a (LfT X.K t)) : PT X (.UnaryOp .Not a pos) (LfT X.K (wNotT t)) := pt_weak (pt_not ha) fun σ H Q ⟨R, e, h, Qm, s, rr, q, k⟩ =>
  ⟨R, e, h, _, s, rr, q, fun c h1 H1 q1 f1 s1 => k _ h1 H1 q1 f1 s1⟩
/-- .. as values -/
def wAndV (wa wb : WE) : WE := fun e h Q => wa e h fun x h1 => match x with | .bl c => (c = true → wb e h1 Q) ∧ (c = false → Q (.bl false) h1) | _ => False
def wOrV (wa wb : WE) : WE := fun e h Q => wa e h fun x h1 => match x with | .bl c => (c = true → Q (.bl true) h1) ∧ (c = false → wb e h1 Q) | _ => False
def wNotV (wa : WE) : WE := fun e h Q => wa e h fun x h1 => match x with | .bl c => Q (.bl (!c)) h1 | _ => False
theorem j_one {op : BoolOp} {w : WE} (ha : PE X a (Lf X.K w)) : PE X (.BoolOp op [a] pos) (Lf X.K w) := pe_one ha
theorem j_andV {wa wb : WE} (ha : PE X a (Lf X.K wa)) (hb : PE X (.BoolOp .And (b :: rest) pos) (Lf X.K wb)) : PE X (.BoolOp .And (a :: b :: rest) pos) (Lf X.K (wAndV wa wb)) := pe_weak (pe_and ha hb) fun σ H Q ⟨R, e, h, Qm, s, rr, q, k⟩ =>
  ⟨R, e, h, _, s, rr, q, fun m1 h1 v1 H1 q1 f1 s1 r1 => by
    cases r1 <;> first | exact q1.elim | skip
    rename_i c
    refine ⟨c, rfl, ?_⟩
    cases c with
    | true => exact ⟨R, e, h1, _, s1, rr.mono f1.fz, q1.1 rfl, fun m3 h3 v3 H3 q3 f3 s3 r3 => k m3 h3 v3 H3 q3 (f1.trans f3) s3 r3⟩
    | false => exact k _ h1 _ H1 (q1.2 rfl) f1 s1 (.bl false)⟩
theorem j_orV {wa wb : WE} (ha : PE X a (Lf X.K wa)) (hb : PE X (.BoolOp .Or (b :: rest) pos) (Lf X.K wb)) : PE X (.BoolOp .Or (a :: b :: rest) pos) (Lf X.K (wOrV wa wb)) := pe_weak (pe_or ha hb) fun σ H Q ⟨R, e, h, Qm, s, rr, q, k⟩ =>
  ⟨R, e, h, _, s, rr, q, fun m1 h1 v1 H1 q1 f1 s1 r1 => by
    cases r1 <;> first | exact q1.elim | skip
    rename_i c
    refine ⟨c, rfl, ?_⟩
    cases c with
    | true => exact k _ h1 _ H1 (q1.1 rfl) f1 s1 (.bl true)
    | false => exact ⟨R, e, h1, _, s1, rr.mono f1.fz, q1.2 rfl, fun m3 h3 v3 H3 q3 f3 s3 r3 => k m3 h3 v3 H3 q3 (f1.trans f3) s3 r3⟩⟩
theorem j_notV {wa : WE} (ha : PE X a (Lf X.K wa)) : PE X (.UnaryOp .Not a pos) (Lf X.K (wNotV wa)) := pe_weak (pe_not ha) fun σ H Q ⟨R, e, h, Qm, s, rr, q, k⟩ =>
  ⟨R, e, h, _, s, rr, q, fun m1 h1 v1 H1 q1 f1 s1 r1 => by
    cases r1 <;> first | exact q1.elim | skip
    rename_i c
    exact ⟨c, rfl, k _ h1 _ H1 q1 f1 s1 (.bl _)⟩⟩
def wIf (t : WT) (wa wb : WE) : WE := fun e h Q => t e h fun c h1 => (c = true → wa e h1 Q) ∧ (c = false → wb e h1 Q)
theorem j_if {t : WT} {wa wb : WE} (hc : PT X c (LfT X.K t)) (ha : PE X a (Lf X.K wa)) (hb : PE X b (Lf X.K wb)) : PE X (.IfExp c a b pos) (Lf X.K (wIf t wa wb)) := pe_weak (pe_ifExp hc ha hb) fun σ H Q ⟨R, e, h, Qm, s, rr, q, k⟩ =>
  ⟨R, e, h, _, s, rr, q, fun c h1 H1 q1 f1 s1 => by
    cases c with
    | true => exact ⟨R, e, h1, _, s1, rr.mono f1.fz, q1.1 rfl, fun m3 h3 v3 H3 q3 f3 s3 r3 => k m3 h3 v3 H3 q3 (f1.trans f3) s3 r3⟩
    | false => exact ⟨R, e, h1, _, s1, rr.mono f1.fz, q1.2 rfl, fun m3 h3 v3 H3 q3 f3 s3 r3 => k m3 h3 v3 H3 q3 (f1.trans f3) s3 r3⟩⟩

/-! ### arguments, displays -/
def wNil : WA := fun _ h Q => Q [] h
def wCons (w : WE) (r : WA) : WA := fun e h Q => w e h fun x h1 => r e h1 fun xs h2 => Q (x :: xs) h2
theorem ja_nil : PA X [] (LfA X.K wNil) := pa_weak pa_nil fun σ H Q ⟨R, e, h, Qm, s, rr, q, k⟩ => k _ h _ H q Fr.refl s .nil
theorem j_tCons {K : PySem.W.Frag} {w : WE} {r : WA} (σ : L2.St) (H : Hp) (Q : List V → Hp → Prop) (q : LfA K (wCons w r) σ H Q) : tCons (Lf K w) (LfA K r) σ H Q := by
  obtain ⟨R, e, h, Qm, s, rr, q, k⟩ := q
  exact ⟨R, e, h, _, s, rr, q, fun m1 h1 v1 H1 q1 f1 s1 r1 => ⟨R, e, h1, _, s1, rr.mono f1.fz, q1, fun m2 h2 v2 H2 q2 f2 s2 r2 => k _ h2 _ H2 q2 (f1.trans f2) s2 (.cons (r1.mono f2.fz) r2)⟩⟩
theorem ja_cons {es : List Expr} {w : WE} {r : WA} (ha : PE X e (Lf X.K w)) (hr : PA X es (LfA X.K r)) (hs : starEach (e :: es) X.env = (false, eval e X.env) :: starEach es X.env := by rfl) : PA X (e :: es) (LfA X.K (wCons w r)) := pa_weak (pa_cons ha hr hs) j_tCons
theorem jk_nil : PK X [] (LfA X.K wNil) := pk_weak pk_nil fun σ H Q ⟨R, e, h, Qm, s, rr, q, k⟩ => k _ h _ H q Fr.refl s .nil
theorem jk_cons {nm : Option Str} {kpos : Pos} {es : List Keyword} {w : WE} {r : WA} (ha : PE X e (Lf X.K w)) (hr : PK X es (LfA X.K r)) : PK X (⟨nm, e, kpos⟩ :: es) (LfA X.K (wCons w r)) := pk_weak (pk_cons ha hr) j_tCons
theorem sz_line {n : Nat} (h : n ≤ 100000) : n ≤ sizeLine := Nat.le_trans h (by decide)
theorem sz_lt {n : Nat} (h : n < 100000) : n < sizeLine := Nat.lt_of_lt_of_le h (by decide)
def wTup (r : WA) : WE := fun e h Q => r e h fun xs h1 => xs.length ≤ 100000 ∧ Q (.tup xs) h1
theorem j_tup {es : List Expr} {x1 : Nat} {r : WA} (h : PA X es (LfA X.K r)) : PE X (.Tuple es x1 pos) (Lf X.K (wTup r)) := pe_weak (pe_tup h) fun σ H Q ⟨R, e, h, Qm, s, rr, q, k⟩ =>
  ⟨R, e, h, _, s, rr, q, fun m1 h1 v1 H1 q1 f1 s1 r1 => ⟨by rw [r1.length]; exact sz_line q1.1, fun p hp => by
    have fn : h1 p = none := s1.fresh hp
    exact k _ h1 _ _ q1.2 (f1.trans (Fr.new hp)) (s1.new hp) (.tup (.inl ⟨.inl upd_same, fn, s1.freshR hp⟩) (r1.mono (Fr.new hp).fz))⟩⟩
def wLst (r : WA) : WA := fun e h Q => r e h fun xs h1 => xs.length ≤ 100000 ∧ Q xs h1
theorem j_lst {es : List Expr} {r : WA} (h : PA X es (LfA X.K r)) : PE X (.List es pos) (LfL X.K (wLst r)) := pe_weak (pe_lst h) fun σ H Q ⟨R, e, h, Qm, s, rr, q, k⟩ =>
  ⟨R, e, h, _, s, rr, q, fun m1 h1 v1 H1 q1 f1 s1 r1 => ⟨by rw [r1.length]; exact sz_line q1.1, fun p hp => by
    have fn : h1 p = none := s1.fresh hp
    have hp0 : h p = none → H p = none := fun y => by
      cases z : H p with
      | none => rfl
      | some o =>
        by_cases r : R p
        · rw [f1.rs _ _ r z] at hp; cases hp
        · rw [(f1.fz _ _ z y r).1] at hp; cases hp
    exact k _ h1 p _ _ q1.2 (f1.trans (Fr.new hp)) (s1.plus hp) (s1.freshR hp) hp0 upd_same (r1.mono (Ft.plus hp))⟩⟩
end
end Rv

namespace Rv
open PySem PySem.Spec PyProof.Rows L2

section
variable {K : PySem.W.Frag} {R : Addr → Prop} {h : Mh} {H : Hp} {a : Addr} {vs : List V}
theorem FzL.sq (r : FzL R h H a vs) : SqL K H a vs := .inl r.1
theorem FzS.sq (r : FzS K R h H a vs) : SqL K H a vs := r.elim (fun z => .inl z.1) .inr
theorem FzT.sq (r : FzT K R h H a vs) : SqT K H a vs := r.elim (fun z => .inl z.1) .inr
theorem Sim.sq {xs : List Mv} (s : Sim K R h H) (e : h a = some (.lst xs)) : ∃ vs, H a = some (.lst vs) ∧ Reps K R h H xs vs := s.ob a _ e
theorem Rep.int_inv {i : Int} {v : V} (r : Rep K R h H (.int i) v) : v = .int i := by cases r; rfl
theorem Rep.bl_inv {i : Bool} {v : V} (r : Rep K R h H (.bl i) v) : v = .bl i := by cases r; rfl
theorem Rep.str_inv {i : Str} {v : V} (r : Rep K R h H (.str i) v) : v = .str i := by cases r; rfl
theorem Rep.non_inv {v : V} (r : Rep K R h H .non v) : v = .non := by cases r; rfl
end
/-! ### ints -/
def Big (i : Int) : Prop := i.natAbs < 2 ^ 4000
def Sm (i : Int) : Prop := -(2 ^ 64) < i ∧ i < 2 ^ 64
theorem Sm.big {i : Int} (h : Sm i) : Big i := by
  have e : i.natAbs < 2 ^ 64 := by unfold Sm at h; omega
  exact Nat.lt_of_lt_of_le e (Nat.pow_le_pow_right (by decide) (by decide))
def MulOk (i j : Int) : Prop := Sm i ∨ Sm j ∨ (Big i ∧ Big j)
def fII (C : Int → Int → Prop) (g : Int → Int → Mv) : F2 := fun x y h Q => match x, y with | .int i, .int j => C i j ∧ Q (g i j) h | _, _ => False
def fI0 (g : Int → Int → Mv) : F2 := fun x y h Q => match x, y with | .int i, .int j => Q (g i j) h | _, _ => False
theorem m_I0 {K : PySem.W.Frag} {g : Int → Int → V} {gm : Int → Int → Mv} (hg : ∀ i j R h H, Rep K R h H (gm i j) (g i j)) : OpM K (rI0 g) (fI0 gm) := fun {x y mx my R h H Qm Q} s rx ry q w => by
  cases rx <;> first | exact q.elim | skip
  cases ry <;> first | exact q.elim | skip
  exact ⟨_, _, rfl, rfl, w.go s q (hg _ _ _ _ _)⟩
theorem m_II {K : PySem.W.Frag} {C C' : Int → Int → Prop} {g : Int → Int → V} {gm : Int → Int → Mv} (hc : ∀ i j, C' i j → C i j) (hg : ∀ i j R h H, Rep K R h H (gm i j) (g i j)) : OpM K (rI C g) (fII C' gm) := fun {x y mx my R h H Qm Q} s rx ry q w => by
  cases rx <;> first | exact q.elim | skip
  cases ry <;> first | exact q.elim | skip
  exact ⟨_, _, rfl, rfl, hc _ _ q.1, w.go s q.2 (hg _ _ _ _ _)⟩
section
variable {X : Cx} {a b c e : Expr} {pos : Pos} {wa wb : WE}
def fAddI : F2 := fI0 fun i j => .int (i + j)
def fSub : F2 := fI0 fun i j => .int (i - j)
def fMulI : F2 := fII MulOk fun i j => .int (i * j)
def fDiv : F2 := fII (fun _ j => 0 < j ∧ Big j) fun i j => .int (i / j)
def fMod : F2 := fII (fun _ j => 0 < j) fun i j => .int (i % j)
def fPow : F2 := fII (fun i j => 0 ≤ j ∧ j ≤ 1000000 ∧ Sm i) fun i j => .int (i ^ j.toNat)
def fLtI : F2 := fI0 fun i j => .bl (decide (i < j))
def fLeI : F2 := fI0 fun i j => .bl (decide (i ≤ j))
def fGtI : F2 := fI0 fun i j => .bl (decide (j < i))
def fGeI : F2 := fI0 fun i j => .bl (decide (j ≤ i))
def fNeg : F1 := fun x h Q => match x with | .int i => Q (.int (-i)) h | _ => False
theorem m_neg {K : PySem.W.Frag} : UnM K (rU fun i => .int (-i)) fNeg := fun {x mx R h H Qm Q} s rx q w => by
  cases rx <;> first | exact q.elim | skip
  exact ⟨_, rfl, w.go s q (.int _)⟩
theorem m_add {K : PySem.W.Frag} : OpM K (rI0 fun i j => .int (i + j)) fAddI := m_I0 fun _ _ _ _ _ => .int _
theorem m_sub {K : PySem.W.Frag} : OpM K (rI0 fun i j => .int (i - j)) fSub := m_I0 fun _ _ _ _ _ => .int _
theorem m_mod {K : PySem.W.Frag} : OpM K (rI (fun _ j => 0 < j) fun i j => .int (i % j)) fMod := m_II (fun _ _ h => h) fun _ _ _ _ _ => .int _
theorem m_pow {K : PySem.W.Frag} : OpM K (rI CPow fun i j => .int (i ^ j.toNat)) fPow := m_II (fun i j h => ⟨h.1, h.2.1, by have := h.2.2; unfold Sm at this; omega⟩) fun _ _ _ _ _ => .int _
def rMulA : R2 := fun x y H Q => rI CMul (fun i j => .int (i * j)) x y H Q ∨ rI CMulW (fun i j => .int (i * j)) x y H Q
theorem op_mulA : OpR X (binaryOp .Mult) rMulA := op_mul.or op_mulW
theorem m_mulI {K : PySem.W.Frag} : OpM K rMulA fMulI := fun {x y mx my R h H Qm Q} s rx ry q w => by
  cases rx <;> first | exact q.elim | skip
  cases ry <;> first | exact q.elim | skip
  obtain ⟨c, q⟩ := q
  rcases c with c | c | ⟨c, d⟩
  · exact .inl ⟨_, _, rfl, rfl, .inl c, w.go s q (.int _)⟩
  · exact .inl ⟨_, _, rfl, rfl, .inr c, w.go s q (.int _)⟩
  · exact .inr ⟨_, _, rfl, rfl, wide_mul c d (by decide) (by decide) (by decide), w.go s q (.int _)⟩
theorem m_div {K : PySem.W.Frag} : OpM K (rI CDivW fun i j => .int (i / j)) fDiv := m_II (fun i j h => wide_div h.1 h.2 (by decide) (by decide)) fun _ _ _ _ _ => .int _
theorem m_lt {K : PySem.W.Frag} : OpM K (rI0 fun i j => .bl (decide (i < j))) fLtI := m_I0 fun _ _ _ _ _ => .bl _
theorem m_le {K : PySem.W.Frag} : OpM K (rI0 fun i j => .bl (decide (i ≤ j))) fLeI := m_I0 fun _ _ _ _ _ => .bl _
theorem m_gt {K : PySem.W.Frag} : OpM K (rI0 fun i j => .bl (decide (j < i))) fGtI := m_I0 fun _ _ _ _ _ => .bl _
theorem m_ge {K : PySem.W.Frag} : OpM K (rI0 fun i j => .bl (decide (j ≤ i))) fGeI := m_I0 fun _ _ _ _ _ => .bl _

/-! ### == -/
mutual
def toD : Mv → Option PyData
  | .non => some .none
  | .bl b => some (.bool b)
  | .int i => some (.int i)
  | .str x => some (.str x)
  | .tup xs => (toDs xs).map .tuple
  | .vl xs => (toDs xs).map .list
  | .sc xs => (toDs xs).map .list
  | .ty _ => none
  | .vd _ _ => none
  | .ref _ => none
def toDs : List Mv → Option (List PyData)
  | [] => some []
  | x :: xs => match toD x, toDs xs with | some d, some ds => some (d :: ds) | _, _ => none
end
mutual
theorem Rep.dp {K : PySem.W.Frag} {R : Addr → Prop} {h : Mh} {H : Hp} : ∀ {m : Mv} {v : V} {d : PyData}, Rep K R h H m v → toD m = some d → Dp K H v d
  | _, _, _, .non, e => by simp [toD] at e; subst e; exact .non
  | _, _, _, .bl b, e => by simp [toD] at e; subst e; exact .bl b
  | _, _, _, .int b, e => by simp [toD] at e; subst e; exact .int b
  | _, _, _, .str b, e => by simp [toD] at e; subst e; exact .str b
  | _, _, _, .ty b, e => by simp [toD] at e
  | _, _, _, .ref b, e => by simp [toD] at e
  | _, _, _, .vd _ _ _, e => by simp [toD] at e
  | _, _, _, .tup a r, e => by
    simp only [toD, Option.map_eq_some_iff] at e
    obtain ⟨ds, e, rfl⟩ := e
    exact .tup a.sq (r.dps e)
  | _, _, _, .vl a r, e => by
    simp only [toD, Option.map_eq_some_iff] at e
    obtain ⟨ds, e, rfl⟩ := e
    exact .lst a.sq (r.dps e)
  | _, _, _, .sc a r, e => by
    simp only [toD, Option.map_eq_some_iff] at e
    obtain ⟨ds, e, rfl⟩ := e
    exact .lst a.sq (r.dps e)
theorem Reps.dps {K : PySem.W.Frag} {R : Addr → Prop} {h : Mh} {H : Hp} : ∀ {m : List Mv} {v : List V} {d : List PyData}, Reps K R h H m v → toDs m = some d → DpAll K H v d
  | _, _, _, .nil, e => by simp [toDs] at e; subst e; exact .nil
  | _, _, _, .cons r t, e => by
    unfold toDs at e
    split at e
    · rename_i d ds e1 e2
      cases e
      exact .cons (r.dp e1) (t.dps e2)
    · cases e
end
/-- == of data -/
def EqD (x y : Mv) (r : Bool) : Prop := ∃ d e, toD x = some d ∧ toD y = some e ∧ SeqAt.shaped d = true ∧ SeqAt.shaped e = true ∧ PyData.eqv d e = r
def fEqG (g : Bool → Bool) : F2 := fun x y h Q => match x, y with
  | .int i, .int j => Q (.bl (g (decide (i = j)))) h
  | .str i, .str j => Q (.bl (g (decide (i = j)))) h
  | .bl i, .bl j => Q (.bl (g (decide (i = j)))) h
  | .non, .non => Q (.bl (g true)) h
  | .non, .int _ => Q (.bl (g false)) h
  | .int _, .non => Q (.bl (g false)) h
  | .non, .str _ => Q (.bl (g false)) h
  | .str _, .non => Q (.bl (g false)) h
  | .int _, .str _ => Q (.bl (g false)) h
  | .str _, .int _ => Q (.bl (g false)) h
  | x, y => ∃ r, EqD x y r ∧ Q (.bl (g r)) h
abbrev fEq : F2 := fEqG id
abbrev fNe : F2 := fEqG not
def rEqS (g : Bool → Bool) : R2 := fun x y H Q => scal x y = true ∧ Q (.bl (g (decide (x = y)))) H
def rEqGD (K : PySem.W.Frag) (g : Bool → Bool) : R2 := fun x y H Q => rEqS g x y H Q ∨ ∃ d e, Dp K H x d ∧ Dp K H y e ∧ SeqAt.shaped d = true ∧ SeqAt.shaped e = true ∧ Q (.bl (g (PyData.eqv d e))) H
theorem m_eqG {K : PySem.W.Frag} (g : Bool → Bool) : OpM K (rEqGD K g) (fEqG g) := fun {x y mx my R h H Qm Q} s rx ry q w => by
  have sc : ∀ {x y : V} {b : Bool}, scal x y = true → decide (x = y) = b → Qm (.bl (g b)) h → rEqGD K g x y H Q := fun h1 h2 q => .inl ⟨h1, by rw [h2]; exact w.go s q (.bl _)⟩
  unfold fEqG at q
  split at q
  · cases rx; cases ry; exact sc rfl (decide_eq_decide.mpr ⟨fun z => V.int.inj z, fun z => congrArg V.int z⟩) q
  · cases rx; cases ry; exact sc rfl (decide_eq_decide.mpr ⟨fun z => V.str.inj z, fun z => congrArg V.str z⟩) q
  · cases rx; cases ry; exact sc rfl (decide_eq_decide.mpr ⟨fun z => V.bl.inj z, fun z => congrArg V.bl z⟩) q
  · cases rx; cases ry; exact sc rfl (decide_eq_true rfl) q
  · cases rx; cases ry; exact sc rfl (decide_eq_false fun z => nomatch z) q
  · cases rx; cases ry; exact sc rfl (decide_eq_false fun z => nomatch z) q
  · cases rx; cases ry; exact sc rfl (decide_eq_false fun z => nomatch z) q
  · cases rx; cases ry; exact sc rfl (decide_eq_false fun z => nomatch z) q
  · cases rx; cases ry; exact sc rfl (decide_eq_false fun z => nomatch z) q
  · cases rx; cases ry; exact sc rfl (decide_eq_false fun z => nomatch z) q
  · obtain ⟨r, ⟨d, e, h1, h2, h3, h4, h5⟩, q⟩ := q
    exact .inr ⟨d, e, rx.dp h1, ry.dp h2, h3, h4, by rw [h5]; exact w.go s q (.bl _)⟩
theorem op_eqDI (hu : X.A.units + 64 < cLine) : OpR X (compareOp .Eq) (rEqGD X.K id) := op_eq.or (op_eqD hu)
theorem op_neDI (hu : X.A.units + 64 < cLine) : OpR X (compareOp .NotEq) (rEqGD X.K not) := op_ne.or (op_neD hu)
/-- is None -/
def fIsN (g : Bool → Bool) : F2 := fun x y h Q => match y with | .non => (match x with | .non => Q (.bl (g true)) h | _ => Q (.bl (g false)) h) | _ => False
theorem m_isN {K : PySem.W.Frag} (g : Bool → Bool) : OpM K (fun x y H Q => y = .non ∧ Q (.bl (g (decide (x = .non)))) H) (fIsN g) := fun {x y mx my R h H Qm Q} s rx ry q w => by
  unfold fIsN at q
  cases ry <;> first | exact q.elim | skip
  refine ⟨rfl, ?_⟩
  cases rx
  case non => rw [decide_eq_true rfl]; exact w.go s q (.bl _)
  all_goals (rw [decide_eq_false (by intro z; cases z)]; exact w.go s q (.bl _))
theorem op_isNG : OpR X (compareOp .Is) (fun x y H Q => y = .non ∧ Q (.bl (id (decide (x = .non)))) H) := op_isN
theorem op_notNG : OpR X (compareOp .IsNot) (fun x y H Q => y = .non ∧ Q (.bl (not (decide (x = .non)))) H) := op_notN

/-! ### items -/
def fIx : F2 := fun x y h Q => match x, y with
  | .tup xs, .int i => ∃ m, atI xs i = some m ∧ Q m h
  | .vl xs, .int i => ∃ m, atI xs i = some m ∧ Q m h
  | .sc xs, .int i => ∃ m, atI xs i = some m ∧ Q m h
  | .ref a, .int i => ∃ xs m, h a = some (.lst xs) ∧ atI xs i = some m ∧ Q m h
  | _, _ => False
theorem Reps.atI {K : PySem.W.Frag} {R : Addr → Prop} {h : Mh} {H : Hp} {xs : List Mv} {vs : List V} {i : Int} {m : Mv} (r : Reps K R h H xs vs) (e : atI xs i = some m) : ∃ v, L2.atI vs i = some v ∧ Rep K R h H m v := by
  unfold L2.atI at e ⊢
  rw [r.length]
  cases z : ixN xs.length i with
  | none => rw [z] at e; cases e
  | some j =>
    rw [z] at e
    exact r.get e
theorem m_ix {K : PySem.W.Frag} : OpM K (rIx K) fIx := fun {x y mx my R h H Qm Q} s rx ry q w => by
  unfold fIx at q
  split at q
  · cases rx with
    | tup fz rr =>
      obtain ⟨m, e, q⟩ := q
      obtain ⟨v, e1, r1⟩ := rr.atI e
      cases ry
      exact .inr (.inl ⟨_, _, _, v, rfl, rfl, fz.sq, e1, w.go s q r1⟩)
  · cases rx with
    | vl fz rr =>
      obtain ⟨m, e, q⟩ := q
      obtain ⟨v, e1, r1⟩ := rr.atI e
      cases ry
      exact .inl ⟨_, _, _, v, rfl, rfl, fz.sq, e1, w.go s q r1⟩
  · cases rx with
    | sc fz rr =>
      obtain ⟨m, e, q⟩ := q
      obtain ⟨v, e1, r1⟩ := rr.atI e
      cases ry
      exact .inl ⟨_, _, _, v, rfl, rfl, fz.sq, e1, w.go s q r1⟩
  · obtain ⟨xs, m, ea, e, q⟩ := q
    cases rx
    cases ry
    obtain ⟨vs, e0, rr⟩ := s.sq ea
    obtain ⟨v, e1, r1⟩ := rr.atI e
    exact .inl ⟨_, _, _, v, rfl, rfl, SqL.of e0, e1, w.go s q r1⟩
  · exact q.elim

/-! ### a new list: frozen, or one that may change -/
def wFz (w : WA) : WE := fun e h Q => w e h fun ms h' => Q (.vl ms) h'
def wNew (w : WA) : WE := fun e h Q => w e h fun ms h' => ∀ p, h' p = none → Q (.ref p) (hset h' p (.lst ms))
theorem j_fzT {K : PySem.W.Frag} {w : WA} (σ : L2.St) (H : Hp) (Q : VK) (q : Lf K (wFz w) σ H Q) : LfL K w σ H Q := by
  obtain ⟨R, e, h, Qm, s, rr, q, k⟩ := q
  exact ⟨R, e, h, _, s, rr, q, fun ms h' p vs H' q1 f1 s1 np _ e1 r1 => k _ h' _ H' q1 f1 s1.free (.vl ⟨.inl e1, (s1.rs p (.inr rfl)).1, np⟩ (r1.mono Ft.free))⟩
theorem j_newT {K : PySem.W.Frag} {w : WA} (σ : L2.St) (H : Hp) (Q : VK) (q : Lf K (wNew w) σ H Q) : LfL K w σ H Q := by
  obtain ⟨R, e, h, Qm, s, rr, q, k⟩ := q
  refine ⟨R, e, h, _, s, rr, q, fun ms h' p vs H' q1 f1 s1 np n0 e1 r1 => k _ (hset h' p (.lst ms)) _ H' (q1 p (s1.rs p (.inr rfl)).1) ⟨fun a o ea na ra => ?_, fun a o ra ea => f1.rs a o ra ea⟩ (s1.obj np ⟨vs, e1, r1.mono Ft.obj⟩) (.ref p)⟩
  obtain ⟨ea', na', ra'⟩ := f1.fz a o ea na ra
  have ne : a ≠ p := fun z => by rw [z] at ea na; rw [n0 na] at ea; cases ea
  exact ⟨ea', by rw [hset_ne ne]; exact na', ra'⟩
theorem j_fz {w : WA} (p : PE X e (LfL X.K w)) : PE X e (Lf X.K (wFz w)) := pe_weak p j_fzT
theorem j_new {w : WA} (p : PE X e (LfL X.K w)) : PE X e (Lf X.K (wNew w)) := pe_weak p j_newT
end
end Rv

namespace Rv
open PySem PySem.Spec PyProof.Rows L2

/-! ### targets -/
inductive Tgt where
  | nm (j : Nat) | tp (n : Nat) (ts : Tgt) | nil | cons (t ts : Tgt)
mutual
def tgH (K : PySem.W.Frag) : Tgt → TG
  | .nm j => gName j
  | .tp n ts => gTup K n (tgsH K ts)
  | .nil => fun _ _ _ _ => False
  | .cons _ _ => fun _ _ _ _ => False
def tgsH (K : PySem.W.Frag) : Tgt → TGs
  | .nil => gNil
  | .cons t ts => gCons (tgH K t) (tgsH K ts)
  | .nm _ => fun _ _ _ _ => False
  | .tp _ _ => fun _ _ _ _ => False
end
mutual
def asg : Tgt → Mv → Env → Option Env
  | .nm j, m, e => some (setE e j m)
  | .tp n ts, m, e => match m with | .tup xs => if xs.length = n then asgs ts xs e else none | _ => none
  | .nil, _, _ => none
  | .cons _ _, _, _ => none
def asgs : Tgt → List Mv → Env → Option Env
  | .nil, xs, e => match xs with | [] => some e | _ => none
  | .cons t ts, xs, e => match xs with | x :: r => (match asg t x e with | some e' => asgs ts r e' | none => none) | [] => none
  | .nm _, _, _ => none
  | .tp _ _, _, _ => none
end
/-- the names are among these -/
def Tgt.inn : Tgt → List Nat → Bool
  | .nm j, vs => vs.contains j
  | .tp _ ts, vs => ts.inn vs
  | .nil, _ => true
  | .cons t ts, vs => t.inn vs && ts.inn vs
theorem wipe_get {σ : L2.St} {j : Nat} : ∀ {vs : List Nat}, j ∈ vs → j < σ.length → (wipe σ vs)[j]? = some none
  | [], h, _ => by cases h
  | v :: vs, h, l => by
    unfold wipe
    by_cases e : v = j
    · subst e
      exact List.getElem?_set_self (by rw [wipe_length]; exact l)
    · rw [List.getElem?_set_ne e]
      exact wipe_get ((List.mem_cons.mp h).resolve_left fun z => e z.symm) l
theorem wipe_set {σ : L2.St} {j : Nat} {o : Option V} : ∀ {vs : List Nat}, j ∈ vs → wipe (σ.set j o) vs = wipe σ vs
  | [], h => by cases h
  | v :: vs, h => by
    by_cases e : j ∈ vs
    · show (wipe (σ.set j o) vs).set v none = (wipe σ vs).set v none
      rw [wipe_set e]
    · have e2 : v = j := ((List.mem_cons.mp h).resolve_right e).symm
      subst e2
      have gen : ∀ {us : List Nat}, v ∉ us → wipe (σ.set v o) us = (wipe σ us).set v o := by
        intro us
        induction us with
        | nil => intro _; rfl
        | cons u us ih =>
          intro hn
          have h1 : v ≠ u := fun z => hn (z ▸ List.mem_cons_self)
          have h2 : v ∉ us := fun z => hn (List.mem_cons_of_mem _ z)
          show (wipe (σ.set v o) us).set u none = ((wipe σ us).set u none).set v o
          rw [ih h2, List.set_comm _ _ h1]
      show (wipe (σ.set v o) vs).set v none = (wipe σ vs).set v none
      rw [gen e, List.set_set]
mutual
theorem asg_ok {K : PySem.W.Frag} {R : Addr → Prop} {h : Mh} {H : Hp} : ∀ (t : Tgt) {m : Mv} {e e' : Env} {v : V} {σ : L2.St}, asg t m e = some e' → Rep K R h H m v → RelE K R h H e σ →
    ∃ σ', RelE K R h H e' σ' ∧ (∀ Q : L2.St → Hp → Prop, Q σ' H → tgH K t v σ H Q) ∧ ∀ vs, t.inn vs = true → wipe σ' vs = wipe σ vs
  | .nm j, m, e, e', v, σ, q, r, rr => by
    have q' : setE e j m = e' := by simpa [asg] using q
    subst q'
    refine ⟨σ.set j (some v), rr.set j r, fun Q hq => by unfold tgH; exact hq, fun vs hv => wipe_set (by simpa [Tgt.inn] using hv)⟩
  | .tp n ts, m, e, e', v, σ, q, r, rr => by
    unfold asg at q
    cases r <;> first | (simp at q; done) | skip
    rename_i a xs vs fz rs
    simp only at q
    split at q
    · rename_i hl
      obtain ⟨σ', r', k, w⟩ := asgs_ok ts q rs rr
      refine ⟨σ', r', fun Q hq => ?_, fun vs hv => w vs (by simpa [Tgt.inn] using hv)⟩
      unfold tgH
      exact ⟨a, vs, rfl, fz.sq, by rw [rs.length, hl], k Q hq⟩
    · cases q
  | .nil, m, e, e', v, σ, q, r, rr => by simp [asg] at q
  | .cons _ _, m, e, e', v, σ, q, r, rr => by simp [asg] at q
theorem asgs_ok {K : PySem.W.Frag} {R : Addr → Prop} {h : Mh} {H : Hp} : ∀ (t : Tgt) {m : List Mv} {e e' : Env} {v : List V} {σ : L2.St}, asgs t m e = some e' → Reps K R h H m v → RelE K R h H e σ →
    ∃ σ', RelE K R h H e' σ' ∧ (∀ Q : L2.St → Hp → Prop, Q σ' H → tgsH K t v σ H Q) ∧ ∀ vs, t.inn vs = true → wipe σ' vs = wipe σ vs
  | .nil, m, e, e', v, σ, q, r, rr => by
    unfold asgs at q
    cases r with
    | nil =>
      cases q
      exact ⟨σ, rr, fun Q hq => by unfold tgsH; exact ⟨rfl, hq⟩, fun vs _ => rfl⟩
    | cons _ _ => cases q
  | .cons t ts, m, e, e', v, σ, q, r, rr => by
    unfold asgs at q
    cases r with
    | nil => cases q
    | cons r rs =>
      simp only at q
      split at q
      · rename_i e1 q1
        obtain ⟨σ1, r1, k1, w1⟩ := asg_ok t q1 r rr
        obtain ⟨σ2, r2, k2, w2⟩ := asgs_ok ts q rs r1
        refine ⟨σ2, r2, fun Q hq => ?_, fun vs hv => ?_⟩
        · unfold tgsH
          exact ⟨_, _, rfl, k1 _ (k2 Q hq)⟩
        · simp [Tgt.inn] at hv
          exact (w2 vs hv.2).trans (w1 vs hv.1)
      · cases q
  | .nm _, m, e, e', v, σ, q, r, rr => by simp [asgs] at q
  | .tp _ _, m, e, e', v, σ, q, r, rr => by simp [asgs] at q
end

/-! ### statements -/
def wSeq (a b : WS) : WS := fun D e h => a { D with nx := b D } e h
def wNext : WS := fun D e h => D.nx e h
def wBrk : WS := fun D e h => D.bk e h
def wCnt : WS := fun D e h => D.ct e h
def wExp (w : WE) : WS := fun D e h => w e h fun _ h' => D.nx e h'
def wRet (w : WE) : WS := fun D e h => w e h D.rt
def wRetN : WS := fun D _ h => D.rt .non h
def wIfS (t : WT) (a b : WS) : WS := fun D e h => t e h fun c h' => (c = true → a D e h') ∧ (c = false → b D e h')
def wAsg (t : Tgt) (w : WE) : WS := fun D e h => w e h fun m h' => match asg t m e with | some e' => D.nx e' h' | none => False
def wPut (wv wo wi : WE) : WS := fun D e h => wv e h fun v h1 => wo e h1 fun o h2 => wi e h2 fun i h3 => match o, i with
  | .ref a, .int k => ∃ xs j, h3 a = some (.lst xs) ∧ ixN xs.length k = some j ∧ D.nx e (hset h3 a (.lst (xs.set j v)))
  | _, _ => False
/-- a name and an operator -/
def wAug (i : Nat) (f : F2) (w : WE) : WS := fun D e h => match getE e i with | some x => w e h fun y h1 => f x y h1 fun z h2 => D.nx (setE e i z) h2 | none => False
def wWhile (t : WT) (b : WS) : WS := fun D e h => ∃ I : Nat → Env → Mh → Prop, (∃ n, I n e h) ∧ ∀ n e h, I n e h → t e h fun c h1 => (c = true → b { D with nx := fun e' h' => ∃ m, m < n ∧ I m e' h', ct := fun e' h' => ∃ m, m < n ∧ I m e' h', bk := D.nx } e h1) ∧ (c = false → D.nx e h1)
section
variable {X : Cx} {a b c e : Expr} {st : Stmt} {rest : List Stmt} {pos : Pos} {w : WE} {u v : WS}
theorem s_nil : PSs X [] (LfS X.K wNext) := pss_weak pss_nil fun D σ H ⟨R, e, h, Dm, s, rr, q, k⟩ => k.nx e h σ H q Fr.refl s rr
theorem s_cons (h1 : PS X st (LfS X.K u)) (h2 : PSs X rest (LfS X.K v)) : PSs X (st :: rest) (LfS X.K (wSeq u v)) := pss_weak (pss_cons h1 h2) fun D σ H ⟨R, e, h, Dm, s, rr, q, k⟩ =>
  ⟨R, e, h, _, s, rr, q, ⟨fun e1 h1 σ1 H1 q1 f1 s1 r1 => ⟨R, e1, h1, Dm, s1, r1, q1, k.back f1⟩, k.rt, k.bk, k.ct⟩⟩
theorem s_one (h1 : PS X st (LfS X.K u)) : PSs X [st] (LfS X.K u) := pss_one h1
theorem s_pass : PS X (.Pass pos) (LfS X.K wNext) := ps_weak ps_pass fun D σ H ⟨R, e, h, Dm, s, rr, q, k⟩ => k.nx e h σ H q Fr.refl s rr
theorem s_brk : PS X (.Break pos) (LfS X.K wBrk) := ps_weak ps_break fun D σ H ⟨R, e, h, Dm, s, rr, q, k⟩ => k.bk e h σ H q Fr.refl s rr
theorem s_cnt : PS X (.Continue pos) (LfS X.K wCnt) := ps_weak ps_continue fun D σ H ⟨R, e, h, Dm, s, rr, q, k⟩ => k.ct e h σ H q Fr.refl s rr
theorem s_exp (he : PE X e (Lf X.K w)) (hs : swapsWith e none pos.line X.env = pure false := by rfl) : PS X (.Expr e pos) (LfS X.K (wExp w)) := ps_weak (ps_expr he hs) fun D σ H ⟨R, e, h, Dm, s, rr, q, k⟩ =>
  ⟨R, e, h, _, s, rr, q, fun m1 h1 v1 H1 q1 f1 s1 r1 => k.nx e h1 σ H1 q1 f1 s1 (rr.mono f1.fz)⟩
theorem s_ret (he : PE X e (Lf X.K w)) : PS X (.Return (some e) pos) (LfS X.K (wRet w)) := ps_weak (ps_ret he) fun D σ H ⟨R, e, h, Dm, s, rr, q, k⟩ => ⟨R, e, h, _, s, rr, q, k.rt⟩
theorem s_retN : PS X (.Return none pos) (LfS X.K wRetN) := ps_weak ps_retN fun D σ H ⟨R, e, h, Dm, s, rr, q, k⟩ => k.rt _ h _ H q Fr.refl s .non
theorem s_if {t : WT} {sa sb : List Stmt} (hc : PT X c (LfT X.K t)) (ha : PSs X sa (LfS X.K u)) (hb : PSs X sb (LfS X.K v)) : PS X (.If c sa sb pos) (LfS X.K (wIfS t u v)) := ps_weak (ps_if hc ha hb) fun D σ H ⟨R, e, h, Dm, s, rr, q, k⟩ =>
  ⟨R, e, h, _, s, rr, q, fun c h1 H1 q1 f1 s1 => by
    cases c with
    | true => exact ⟨R, e, h1, Dm, s1, rr.mono f1.fz, q1.1 rfl, k.back f1⟩
    | false => exact ⟨R, e, h1, Dm, s1, rr.mono f1.fz, q1.2 rfl, k.back f1⟩⟩
theorem s_asgT {K : PySem.W.Frag} {t : Tgt} (D : Ends) (σ : L2.St) (H : Hp) (q : LfS K (wAsg t w) D σ H) : tAsg (Lf K w) (tgH K t) D σ H := by
  obtain ⟨R, e, h, Dm, s, rr, q, k⟩ := q
  refine ⟨R, e, h, _, s, rr, q, fun m1 h1 v1 H1 q1 f1 s1 r1 => ?_⟩
  cases z : asg t m1 e with
  | none => simp only [z] at q1
  | some e' =>
    simp only [z] at q1
    obtain ⟨σ', r', go, _⟩ := asg_ok t z r1 (rr.mono f1.fz)
    exact go _ (k.nx e' h1 σ' H1 q1 f1 s1 r')
theorem s_asg {t : Tgt} {tg : Expr} (he : PE X e (Lf X.K w)) (hg : PG X tg (tgH X.K t)) (hs : swapsWithSole [tg] e pos.line X.env = pure false := by rfl) (hw : swappedStores [tg] e X.env = pure none := by rfl)
    (h1 : (assignEach [tg] X.env).map (·.2) = [assign tg X.env] := by rfl) : PS X (.Assign [tg] e pos) (LfS X.K (wAsg t w)) := ps_weak (ps_asg he hg hs hw h1) s_asgT
theorem s_set {i : Nat} {x : Str} {pos' : Pos} (hN : X.N.Nodup) (hi : X.N[i]? = some x) (hx : Loc X.env.scope x) (he : PE X e (Lf X.K w)) (hs : swapsWith e (some (.Name x pos')) pos.line X.env = pure false := by rfl)
    (hf : X.fn x = true ∨ X.env.scope.names.lookup x = some .local := by first | exact .inl rfl | exact .inr rfl | assumption) : PS X (.Assign [.Name x pos'] e pos) (LfS X.K (wAsg (.nm i) w)) :=
  ps_weak (ps_set hN hi hx he hs hf) fun D σ H q => by
    have z := s_asgT D σ H q
    unfold tgH at z
    exact z
theorem s_put {o i : Expr} {wo wi : WE} {pos' : Pos} (he : PE X e (Lf X.K w)) (ho : PE X o (Lf X.K wo)) (hi : PE X i (Lf X.K wi)) (ha : ∀ v, assign (.Subscript o i pos') X.env v = (do
      let ov ← holding [v] (eval o X.env)
      let iv ← holding [v, ov] (eval i X.env)
      standAt pos'
      holding [v, ov, iv] (setItem ov iv v)
      release [v, ov, iv] []) := by intro _; rfl) (hs : swapsWithSole [.Subscript o i pos'] e pos.line X.env = pure false := by rfl) (hw : swappedStores [.Subscript o i pos'] e X.env = pure none := by rfl)
    (h1 : (assignEach [.Subscript o i pos'] X.env).map (·.2) = [assign (.Subscript o i pos') X.env] := by rfl) : PS X (.Assign [.Subscript o i pos'] e pos) (LfS X.K (wPut w wo wi)) :=
  ps_weak (ps_asg he (pg_sub ho hi set_list ha) hs hw h1) fun D σ H ⟨R, e, h, Dm, s, rr, q, k⟩ =>
    ⟨R, e, h, _, s, rr, q, fun m1 h1 v1 H1 q1 f1 s1 r1 => ⟨R, e, h1, _, s1, rr.mono f1.fz, q1, fun m2 h2 v2 H2 q2 f2 s2 r2 => ⟨R, e, h2, _, s2, (rr.mono f1.fz).mono f2.fz, q2, fun m3 h3 v3 H3 q3 f3 s3 r3 => by
      cases r2 <;> first | exact q3.elim | skip
      cases r3 <;> first | exact q3.elim | skip
      rename_i p kk
      obtain ⟨xs, j, ea, ej, q3⟩ := q3
      obtain ⟨vs, e0, rs⟩ := s3.sq ea
      refine ⟨p, vs, kk, j, rfl, rfl, e0, by rw [rs.length]; exact ej, ?_⟩
      have fp : Fr R h3 H3 (hset h3 p (.lst (xs.set j m1))) (upd H3 p (.lst (vs.set j v1))) := Fr.put s3 ea
      have r1' := ((r1.mono f2.fz).mono f3.fz).mono fp.fz
      exact k.nx e _ σ _ q3 (((f1.trans f2).trans f3).trans fp) (s3.put ea ⟨_, upd_same, (rs.mono fp.fz).set j r1'⟩) ((((rr.mono f1.fz).mono f2.fz).mono f3.fz).mono fp.fz)⟩⟩⟩
theorem s_aug {i : Nat} {x : Str} {op : Operator} {r : R2} {f : F2} {pos' : Pos} (hN : X.N.Nodup) (hi : X.N[i]? = some x) (hx : Loc X.env.scope x) (he : PE X e (Lf X.K w)) (ho : OpR X (inplaceOp op) r) (m : OpM X.K r f)
    (hf : X.fn x = true ∨ X.env.scope.names.lookup x = some .local := by first | exact .inl rfl | exact .inr rfl | assumption) : PS X (.AugAssign (.Name x pos') op e pos) (LfS X.K (wAug i f w)) :=
  ps_weak (ps_aug hN hi hx he (fun pins s σ H x y v u Q I r1 r2 h => ho pins s σ H x y v u Q I r1 r2 h) hf) fun D σ H ⟨R, e, h, Dm, s, rr, q, k⟩ => by
    unfold wAug at q
    cases g : getE e i with
    | none => rw [g] at q; exact q.elim
    | some m0 =>
      rw [g] at q
      obtain ⟨v0, e1, r0⟩ := rr.get g
      exact ⟨v0, e1, R, e, h, _, s, rr, q, fun m1 h1 v1 H1 q1 f1 s1 r1 => m s1 (r0.mono f1.fz) r1 q1 fun m2 h2 v2 H2 q2 f2 s2 r2 => k.nx _ h2 _ H2 q2 (f1.trans f2) s2 (((rr.mono f1.fz).mono f2.fz).set i r2)⟩
theorem s_while {t : WT} {sb : List Stmt} (hp : PassesOwn (model X.prog X.w) X.A X.env X.xe) (hc : PT X c (LfT X.K t)) (hb : PSs X sb (LfS X.K u)) : PS X (.While c sb [] pos) (LfS X.K (wWhile t u)) := ps_weak (ps_while hp hc hb) fun D σ H ⟨R, e, h, Dm, s, rr, q, k⟩ => by
  obtain ⟨I, ⟨n, i0⟩, turn⟩ := q
  refine ⟨fun n σ1 H1 => ∃ e1 h1, Fr R h H h1 H1 ∧ Sim X.K R h1 H1 ∧ RelE X.K R h1 H1 e1 σ1 ∧ I n e1 h1, ⟨n, e, h, Fr.refl, s, rr, i0⟩, fun n σ1 H1 ⟨e1, h1, f1, s1, r1, i1⟩ => ?_⟩
  refine ⟨R, e1, h1, _, s1, r1, turn n e1 h1 i1, fun cc h2 H2 q2 f2 s2 => ?_⟩
  cases cc with
  | true =>
    show ∃ N, _ ∧ _
    refine ⟨fun σ' H' => ∃ m, m < n ∧ ∃ e1 h1, Fr R h H h1 H' ∧ Sim X.K R h1 H' ∧ RelE X.K R h1 H' e1 σ' ∧ I m e1 h1, fun σ' H' z => z, ?_⟩
    refine ⟨R, e1, h2, _, s2, r1.mono f2.fz, q2.1 rfl, ⟨fun e3 h3 σ3 H3 ⟨m, lm, im⟩ f3 s3 r3 => ⟨m, lm, e3, h3, (f1.trans f2).trans f3, s3, r3, im⟩, (k.back (f1.trans f2)).rt, (k.back (f1.trans f2)).nx, fun e3 h3 σ3 H3 ⟨m, lm, im⟩ f3 s3 r3 => ⟨m, lm, e3, h3, (f1.trans f2).trans f3, s3, r3, im⟩⟩⟩
  | false => exact k.nx e1 h2 σ1 H2 (q2.2 rfl) (f1.trans f2) s2 (r1.mono f2.fz)
end
/-! ### what is walked -/
abbrev WI := WA
def ItOk (K : PySem.W.Frag) (R : Addr → Prop) (J : It) (ms : List Mv) (h1 : Mh) (H1 : Hp) : Prop := ∀ R' h H, Ft R h1 H1 R' h H → Sim K R' h H → ∀ i,
  (∀ x, ms[i]? = some x → J.go i H ∧ ∀ v H', J.yld i H v H' → Fr R' h H h H' ∧ Sim K R' h H' ∧ Rep K R' h H' x v) ∧ (ms.length ≤ i → J.stop i H)
def LfI (K : PySem.W.Frag) (w : WI) : TI := fun σ H Rr => ∃ R e h Qm, Sim K R h H ∧ RelE K R h H e σ ∧ w e h Qm ∧ ∀ ms h' H' J, Qm ms h' → Fr R h H h' H' → Sim K R h' H' → ItOk K R J ms h' H' → Rr J H'
def wLoop (t : Tgt) (b : WS) (D : ME) : List Mv → Env → Mh → Prop
  | [], e, h => D.nx e h
  | x :: xs, e, h => match asg t x e with
    | some e1 => b { D with nx := wLoop t b D xs, ct := wLoop t b D xs, bk := D.nx } e1 h
    | none => False
def wFor (t : Tgt) (src : WI) (b : WS) : WS := fun D e h => src e h fun xs h1 => wLoop t b D xs e h1
section
variable {X : Cx} {a b c e tg iter : Expr} {pos : Pos} {w : WE} {u v : WS}
theorem pi_weak {wi wi' : TI} (h : PI X tg iter wi) (k : ∀ σ H R, wi' σ H R → wi σ H R) : PI X tg iter wi' := ⟨fun pins s σ H R I q => h.run pins s σ H R I (k _ _ _ q)⟩
theorem s_for {t : Tgt} {src : WI} {sb : List Stmt} (hp : PassesOwn (model X.prog X.w) X.A X.env X.xe) (hc : X.calm = true) (hi : PI X tg iter (LfI X.K src)) (hg : PG X tg (tgH X.K t)) (hb : PSs X sb (LfS X.K u))
    (hs : ∀ x, foldedSetIterable iter X.env x = pure x := by intro _; rfl) : PS X (.For tg iter sb [] pos) (LfS X.K (wFor t src u)) := ps_weak (ps_for hp hc hi hg hb hs) fun D σ H ⟨R, e, h, Dm, s, rr, q, k⟩ => by
  refine ⟨R, e, h, _, s, rr, q, fun ms h1 H1 J q1 f1 s1 it => ?_⟩
  refine ⟨fun i m σ2 H2 => ∃ e2 h2, m = ms.length - i ∧ i ≤ ms.length ∧ Fr R h1 H1 h2 H2 ∧ Sim X.K R h2 H2 ∧ RelE X.K R h2 H2 e2 σ2 ∧ wLoop t u Dm (ms.drop i) e2 h2,
    ⟨_, e, h1, rfl, Nat.zero_le _, Fr.refl, s1, rr.mono f1.fz, by rw [List.drop_zero]; exact q1⟩, fun i m σ2 H2 ⟨e2, h2, em, hi2, f2, s2, r2, q2⟩ => ?_⟩
  obtain ⟨go, stop⟩ := it R h2 H2 f2.fz s2 i
  by_cases hl : i < ms.length
  · rw [List.drop_eq_getElem_cons hl] at q2
    unfold wLoop at q2
    cases z : asg t ms[i] e2 with
    | none => simp only [z] at q2
    | some e3 =>
      simp only [z] at q2
      obtain ⟨g1, g2⟩ := go _ (List.getElem?_eq_getElem hl)
      refine .inr ⟨g1, fun σ' H' => ∃ e' h', Fr R h1 H1 h' H' ∧ Sim X.K R h' H' ∧ RelE X.K R h' H' e' σ' ∧ wLoop t u Dm (ms.drop (i + 1)) e' h', fun σ' H' ⟨e', h', a1, a2, a3, a4⟩ => ⟨ms.length - (i + 1), by omega, e', h', rfl, hl, a1, a2, a3, a4⟩, fun x H' y => ?_⟩
      obtain ⟨f3, s3, r3⟩ := g2 x H' y
      obtain ⟨σ', r', run, _⟩ := asg_ok t z r3 (r2.mono f3.fz)
      have f13 := f2.trans f3
      refine run _ ⟨R, e3, h2, _, s3, r', q2, ⟨fun e4 h4 σ4 H4 q4 f4 s4 r4 => ⟨e4, h4, f13.trans f4, s4, r4, q4⟩, (k.back (f1.trans f13)).rt, (k.back (f1.trans f13)).nx, fun e4 h4 σ4 H4 q4 f4 s4 r4 => ⟨e4, h4, f13.trans f4, s4, r4, q4⟩⟩⟩
  · have z : ms.drop i = [] := List.drop_eq_nil_of_le (by omega)
    rw [z] at q2
    exact .inl ⟨stop (by omega), (k.back (f1.trans f2)).nx e2 h2 σ2 H2 q2 Fr.refl s2 r2⟩
/-! ### the sources -/
/-- a list or a tuple, told by its value -/
def iSeq (K : PySem.W.Frag) (tl : TE) : TI := fun σ H R => tl σ H fun x H1 => ∃ a, x = .ref a ∧ (((∃ xs, SqL K H1 a xs) ∧ R (Itl K a) H1) ∨ ((∃ xs, SqT K H1 a xs) ∧ R (Itt K a) H1))
theorem pi_seq {tl : TE} (hl : PE X iter tl) : PI X tg iter (iSeq X.K tl) := by
  constructor
  intro pins s σ H R I h
  apply thn (hl.run pins s σ H _ I h)
  rintro v s1 ⟨x, H1, I1, r1, a, rfl, q⟩
  cases r1
  have fpo : ∀ b ∈ [s1.heap.objs.size], FpOk X pins H1 b := by
    intro b hb
    rw [List.mem_singleton] at hb
    rw [hb]
    exact I1.fpOk (Nat.le_refl _) (I1.hok.fresh (Nat.le_refl _))
  rcases q with ⟨⟨xs, hq⟩, q⟩ | ⟨⟨xs, hq⟩, q⟩
  · obtain ⟨its, _, p, _⟩ := I1.list hq
    apply wpAny_pyIter_list p.isList
    exact ⟨_, [s1.heap.objs.size], _, _, H1, rfl, I1.kept (t' := s1.toks) fun _ _ z => Heap.get?_push_of_some _ z, turn_list a _, ⟨_, Heap.get?_push_size _ rfl, rfl, rfl⟩, fpo, q⟩
  · obtain ⟨its, _, p, _⟩ := I1.tuple hq
    apply wpAny_pyIter_tuple (show s1.heap.IsTuple a its.toArray from p)
    exact ⟨_, [s1.heap.objs.size], _, _, H1, rfl, I1.kept (t' := s1.toks) fun _ _ z => Heap.get?_push_of_some _ z, turn_tuple a _, ⟨_, Heap.get?_push_size _ rfl, rfl, rfl⟩, fpo, q⟩
theorem it_list {K : PySem.W.Frag} {R : Addr → Prop} {h1 : Mh} {H1 : Hp} {a : Addr} {vs : List V} {ms : List Mv} (fz : FzS K R h1 H1 a vs) (rs : Reps K R h1 H1 ms vs) : ItOk K R (Itl K a) ms h1 H1 := fun R' h H f s i => by
  have sq := (fz.mono f).sq
  have r2 := rs.mono f
  refine ⟨fun x hx => ?_, fun hi => ⟨vs, sq, by rw [rs.length]; exact hi⟩⟩
  obtain ⟨v, hv, rv⟩ := r2.get hx
  refine ⟨⟨vs, v, sq, hv⟩, fun w H' y => ?_⟩
  obtain ⟨rfl, y⟩ := y
  have e := (y vs sq).symm.trans hv
  cases e
  exact ⟨Fr.refl, s, rv⟩
theorem it_tup {K : PySem.W.Frag} {R : Addr → Prop} {h1 : Mh} {H1 : Hp} {a : Addr} {vs : List V} {ms : List Mv} (fz : FzT K R h1 H1 a vs) (rs : Reps K R h1 H1 ms vs) : ItOk K R (Itt K a) ms h1 H1 := fun R' h H f s i => by
  have sq := (fz.mono f).sq
  have r2 := rs.mono f
  refine ⟨fun x hx => ?_, fun hi => ⟨vs, sq, by rw [rs.length]; exact hi⟩⟩
  obtain ⟨v, hv, rv⟩ := r2.get hx
  refine ⟨⟨vs, v, sq, hv⟩, fun w H' y => ?_⟩
  obtain ⟨rfl, y⟩ := y
  have e := (y vs sq).symm.trans hv
  cases e
  exact ⟨Fr.refl, s, rv⟩
def wItems (w : WE) : WI := fun e h Q => w e h fun m h' => match m with | .vl xs => Q xs h' | .tup xs => Q xs h' | .sc xs => Q xs h' | _ => False
theorem si_seq (he : PE X iter (Lf X.K w)) : PI X tg iter (LfI X.K (wItems w)) := pi_weak (pi_seq he) fun σ H Rr ⟨R, e, h, Qm, s, rr, q, k⟩ =>
  ⟨R, e, h, _, s, rr, q, fun m1 h1 v1 H1 q1 f1 s1 r1 => by
    cases r1 <;> first | exact q1.elim | skip
    · rename_i fz rs
      exact ⟨_, rfl, .inr ⟨⟨_, fz.sq⟩, k _ h1 H1 _ q1 f1 s1 (it_tup fz rs)⟩⟩
    · rename_i fz rs
      exact ⟨_, rfl, .inl ⟨⟨_, fz.sq⟩, k _ h1 H1 _ q1 f1 s1 (it_list (.inl fz) rs)⟩⟩
    · rename_i fz rs
      exact ⟨_, rfl, .inl ⟨⟨_, fz.sq⟩, k _ h1 H1 _ q1 f1 s1 (it_list fz rs)⟩⟩⟩
def rngM (lo : Int) (n : Nat) : List Mv := (List.range n).map fun i => .int (lo + (i : Nat))
theorem it_rng {K : PySem.W.Frag} {R : Addr → Prop} {h1 : Mh} {H1 : Hp} {lo : Int} {n : Nat} : ItOk K R (Itr lo n) (rngM lo n) h1 H1 := fun R' h H f s i => by
  refine ⟨fun x hx => ?_, fun hi => (by have z := hi; unfold rngM at z; rw [List.length_map, List.length_range] at z; exact z : n ≤ i)⟩
  have hl : i < n := by
    have := (List.getElem?_eq_some_iff.mp hx).1
    simpa [rngM] using this
  have e : x = .int (lo + (i : Nat)) := by
    unfold rngM at hx
    rw [List.getElem?_map, List.getElem?_range hl] at hx
    exact (Option.some.inj hx).symm
  subst e
  refine ⟨hl, fun v H' y => ?_⟩
  obtain ⟨rfl, rfl⟩ := y
  exact ⟨Fr.refl, s, .int _⟩
def wRng1 (wa : WA) : WI := fun e h Q => wa e h fun ms h' => match ms with | [.int j] => -(2 ^ 62) ≤ j ∧ j < 2 ^ 62 ∧ Q (rngM 0 j.toNat) h' | _ => False
def wRng2 (wa : WA) : WI := fun e h Q => wa e h fun ms h' => match ms with | [.int i, .int j] => (-(2 ^ 62) ≤ i ∧ i < 2 ^ 62 ∧ -(2 ^ 62) ≤ j ∧ j < 2 ^ 62) ∧ Q (rngM i (j - i).toNat) h' | _ => False
theorem si_rng1 {wa : WA} (h : PI X tg iter (iRng1 (LfA X.K wa))) : PI X tg iter (LfI X.K (wRng1 wa)) := pi_weak h fun σ H Rr ⟨R, e, h, Qm, s, rr, q, k⟩ =>
  ⟨R, e, h, _, s, rr, q, fun m1 h1 v1 H1 q1 f1 s1 r1 => by
    split at q1
    · cases r1 with
      | cons r1 t =>
        cases t
        cases r1
        exact ⟨_, rfl, q1.1, q1.2.1, k _ h1 H1 _ q1.2.2 f1 s1 it_rng⟩
    · exact q1.elim⟩
theorem si_rng2 {wa : WA} (h : PI X tg iter (iRng2 (LfA X.K wa))) : PI X tg iter (LfI X.K (wRng2 wa)) := pi_weak h fun σ H Rr ⟨R, e, h, Qm, s, rr, q, k⟩ =>
  ⟨R, e, h, _, s, rr, q, fun m1 h1 v1 H1 q1 f1 s1 r1 => by
    split at q1
    · cases r1 with
      | cons r1 t =>
        cases t with
        | cons r2 t =>
          cases t
          cases r1
          cases r2
          exact ⟨_, _, rfl, q1.1, k _ h1 H1 _ q1.2 f1 s1 it_rng⟩
    · exact q1.elim⟩
end
end Rv

namespace Rv
open PySem PySem.Spec PyProof.Rows L2

/-! ### comprehensions -/
def wLcGo (t : Tgt) (tt : WT) (w : WE) (e : Env) (Q : List Mv → Mh → Prop) : List Mv → Mh → List Mv → Prop
  | [], h, acc => Q acc h
  | x :: xs, h, acc => match asg t x e with
    | some e1 => tt e1 h fun c h1 => (c = true → w e1 h1 fun m h2 => wLcGo t tt w e Q xs h2 (acc ++ [m])) ∧ (c = false → wLcGo t tt w e Q xs h1 acc)
    | none => False
def wLc (src : WI) (t : Tgt) (tt : WT) (w : WE) (own : List Nat) : WA := fun e h Q => src e h fun xs h1 => xs.length ≤ 100000 ∧ wLcGo t tt w (wipeE e own) Q xs h1 []
def wYes : WT := fun _ h Q => Q true h
section
variable {X : Cx} {a b c e tg iter elt : Expr} {pos : Pos} {w : WE} {u v : WS}
theorem wipe_wipe {σ : L2.St} : ∀ {vs : List Nat}, wipe (wipe σ vs) vs = wipe σ vs := fun {vs} => by
  have gen : ∀ (us : List Nat) (τ : L2.St), (∀ v ∈ us, v ∈ vs) → wipe (wipe τ us) vs = wipe τ vs := by
    intro us
    induction us with
    | nil => intro τ _; rfl
    | cons u us ih =>
      intro τ hu
      show wipe ((wipe τ us).set u none) vs = wipe τ vs
      rw [wipe_set (hu u List.mem_cons_self)]
      exact ih τ fun v hv => hu v (List.mem_cons_of_mem _ hv)
  exact gen vs σ fun _ h => h
theorem j_yes : PTs X [] (LfT X.K wYes) := pts_weak pts_nil fun σ H Q ⟨R, e, h, Qm, s, rr, q, k⟩ => k _ h H q Fr.refl s
theorem j_ts1 {t : WT} (p : PT X c (LfT X.K t)) : PTs X [c] (LfT X.K t) := pts_one p
theorem lc_T {K : PySem.W.Frag} {src : WI} {t : Tgt} {tt : WT} {own : List Nat} (hown : t.inn own = true) (σ : L2.St) (H : Hp) (Q : VK) (q : LfL K (wLc src t tt w own) σ H Q) :
    tLc (LfI K src) (tgH K t) (LfT K tt) (Lf K w) own σ H Q := by
  obtain ⟨R, e, h, Qm, s, rr, q, k⟩ := q
  refine ⟨R, e, h, _, s, rr, q, fun ms h1 H1 J q1 f1 s1 it D hD => ?_⟩
  obtain ⟨hlen, q1⟩ := q1
  have nR : ¬ R D := s1.freshR hD
  have hp0 : h D = none → H D = none := fun y => by
    cases z : H D with
    | none => rfl
    | some o =>
      by_cases r : R D
      · exact absurd r nR
      · rw [(f1.fz _ _ z y r).1] at hD; cases hD
  -- the list is laid, reserved
  have base : Ft R h1 H1 (Plus R D) h1 (upd H1 D (.lst [])) := Ft.plus hD
  refine ⟨fun i m H2 => ∃ h2 acc vs, m = ms.length - i ∧ i ≤ ms.length ∧ Ft R h1 H1 (Plus R D) h2 H2 ∧ (∀ a o, R a → H1 a = some o → H2 a = some o) ∧ Sim K (Plus R D) h2 H2 ∧ H2 D = some (.lst vs) ∧ Reps K (Plus R D) h2 H2 acc vs ∧ acc.length ≤ i ∧ wLcGo t tt w (wipeE e own) Qm (ms.drop i) h2 acc,
    ⟨_, h1, [], [], rfl, Nat.zero_le _, base, fun a o ra ea => by rw [upd_ne (ne_of_none ea hD)]; exact ea, s1.plus hD, upd_same, .nil, Nat.le_refl _, by rw [List.drop_zero]; exact q1⟩, fun i m H2 ⟨h2, acc, vs, em, hi, f2, g2, s2, e2, r2, l2, q2⟩ => ?_⟩
  obtain ⟨go, stop⟩ := it (Plus R D) h2 H2 f2 s2 i
  by_cases hl : i < ms.length
  · rw [List.drop_eq_getElem_cons hl] at q2
    unfold wLcGo at q2
    cases z : asg t ms[i] (wipeE e own) with
    | none => simp only [z] at q2
    | some e3 =>
      simp only [z] at q2
      obtain ⟨g1, y1⟩ := go _ (List.getElem?_eq_getElem hl)
      refine .inr ⟨g1, fun H' => ∃ h' acc' vs', Ft R h1 H1 (Plus R D) h' H' ∧ (∀ a o, R a → H1 a = some o → H' a = some o) ∧ Sim K (Plus R D) h' H' ∧ H' D = some (.lst vs') ∧ Reps K (Plus R D) h' H' acc' vs' ∧ acc'.length ≤ i + 1 ∧ wLcGo t tt w (wipeE e own) Qm (ms.drop (i + 1)) h' acc',
        fun H' ⟨h', acc', vs', b1, b2, b3, b4, b5, b6, b7⟩ => ⟨ms.length - (i + 1), by omega, h', acc', vs', rfl, hl, b1, b2, b3, b4, b5, b6, b7⟩, fun x H' y => ?_⟩
      obtain ⟨f3, s3, r3⟩ := y1 x H' y
      have rr3 : RelE K (Plus R D) h2 H' (wipeE e own) (wipe σ own) := (((rr.mono f1.fz).mono f2).mono f3.fz).wipe own
      obtain ⟨σ', r', run, wp⟩ := asg_ok t z r3 rr3
      have FF : ∀ {ha hb : Mh} {Ha Hb : Hp}, Ft R h1 H1 (Plus R D) ha Ha → Fr (Plus R D) ha Ha hb Hb → Ft R h1 H1 (Plus R D) hb Hb := fun x1 x2 p o ep np rp => let ⟨y1, y2, y3⟩ := x1 p o ep np rp; x2.fz p o y1 y2 y3
      have GG : ∀ {ha hb : Mh} {Ha Hb : Hp}, (∀ a o, R a → H1 a = some o → Ha a = some o) → Fr (Plus R D) ha Ha hb Hb → ∀ a o, R a → H1 a = some o → Hb a = some o := fun x1 x2 p o rp ep => x2.rs p o (.inl rp) (x1 p o rp ep)
      refine run _ ⟨(wp own hown).trans wipe_wipe, Plus R D, e3, h2, _, s3, r', q2, fun cc h4 H4 q4 f4 s4 => ?_⟩
      have e3' := f3.rs D _ (.inr rfl) e2
      have e4 := f4.rs D _ (.inr rfl) e3'
      have r4 := (r2.mono f3.fz).mono f4.fz
      have F4 := FF (FF f2 f3) f4
      have G4 := GG (GG g2 f3) f4
      cases cc with
      | false => exact ⟨h4, acc, vs, F4, G4, s4, e4, r4, by omega, q4.2 rfl⟩
      | true =>
        show Lf K w σ' H4 _
        refine ⟨Plus R D, e3, h4, _, s4, r'.mono f4.fz, q4.1 rfl, fun m5 h5 v5 H5 q5 f5 s5 r5 => ?_⟩
        have e5 := f5.rs D _ (.inr rfl) e4
        refine ⟨vs, e5, sz_lt (by rw [r4.length]; omega), ?_⟩
        have F5 := FF F4 f5
        have G5 := GG G4 f5
        refine ⟨h5, acc ++ [m5], vs ++ [v5], fun p o ep np rp => ?_, fun p o rp ep => ?_, s5.putR (.inr rfl), upd_same, ((r4.mono f5.fz).append (.cons r5 .nil)).mono (Ft.putR (.inr rfl)), by simp; omega, q5⟩
        · obtain ⟨y1, y2, y3⟩ := F5 p o ep np rp
          exact ⟨by rw [upd_ne (show p ≠ D from fun zz => y3 (.inr zz))]; exact y1, y2, y3⟩
        · rw [upd_ne (show p ≠ D from fun zz => nR (zz ▸ rp))]
          exact G5 p o rp ep
  · have z : ms.drop i = [] := List.drop_eq_nil_of_le (by omega)
    rw [z] at q2
    unfold wLcGo at q2
    exact .inl ⟨stop (by omega), k acc h2 D vs H2 q2 (f1.trans ⟨fun p o ep np rp => let ⟨y1, y2, y3⟩ := f2 p o ep np rp; ⟨y1, y2, rp⟩, g2⟩) s2 nR hp0 e2 r2⟩
theorem j_lc {ifs : List Expr} {scope : Scope} {own : List (Str × Nat)} {src : WI} {t : Tgt} {tt : WT} (hown : t.inn (own.map (·.2)) = true) (hc : X.calm = true) (hN : X.N.Nodup) (hi : PI X tg iter (LfI X.K src)) (ok : BlkOk X.N X.env.scope scope own)
    (hg : ∀ (s : Shared) (H : Hp) (C : Addr) (cl : List (Str × Addr)) (fp : List Addr), PG (X.blk s H scope (compEnvC scope cl C X.env) fp) tg (tgH X.K t))
    (ht : ∀ (s : Shared) (H : Hp) (C : Addr) (cl : List (Str × Addr)) (fp : List Addr), PTs (X.blk s H scope (compEnvC scope cl C X.env) fp) ifs (LfT X.K tt))
    (he : ∀ (s : Shared) (H : Hp) (C : Addr) (cl : List (Str × Addr)) (fp : List Addr), PE (X.blk s H scope (compEnvC scope cl C X.env) fp) elt (Lf X.K w)) (hs : ∀ x, foldedSetIterable iter X.env x = pure x := by intro _; rfl) :
    PE X (.ListComp elt [⟨tg, iter, ifs, 0⟩] scope pos) (LfL X.K (wLc src t tt w (own.map (·.2)))) := pe_weak (pe_lc hc hN hi ok hg ht he hs) (lc_T hown)
/-- name = [..] -/
theorem s_setLc {i : Nat} {y : Str} {py spos : Pos} {ifs : List Expr} {scope : Scope} {own : List (Str × Nat)} {src : WI} {t : Tgt} {tt : WT} (hown : t.inn (own.map (·.2)) = true) (hc : X.calm = true) (hN : X.N.Nodup) (hy : X.N[i]? = some y) (hyl : X.env.scope.names.lookup y = some .local)
    (hsw : swapsWith (.ListComp elt [⟨tg, iter, ifs, 0⟩] scope pos) (some (.Name y py)) spos.line X.env = pure true) (hi : PI X tg iter (LfI X.K src)) (ok : BlkOk X.N X.env.scope scope own)
    (hg : ∀ (s : Shared) (H : Hp) (C : Addr) (cl : List (Str × Addr)) (fp : List Addr), PG (X.blk s H scope (compEnvC scope cl C X.env) fp) tg (tgH X.K t))
    (ht : ∀ (s : Shared) (H : Hp) (C : Addr) (cl : List (Str × Addr)) (fp : List Addr), PTs (X.blk s H scope (compEnvC scope cl C X.env) fp) ifs (LfT X.K tt))
    (he : ∀ (s : Shared) (H : Hp) (C : Addr) (cl : List (Str × Addr)) (fp : List Addr), PE (X.blk s H scope (compEnvC scope cl C X.env) fp) elt (Lf X.K w)) (wr : WA → WE) (hwr : ∀ (K : PySem.W.Frag) (wl : WA) σ H Q, Lf K (wr wl) σ H Q → LfL K wl σ H Q) (hs : ∀ x, foldedSetIterable iter X.env x = pure x := by intro _; rfl) :
    PS X (.Assign [.Name y py] (.ListComp elt [⟨tg, iter, ifs, 0⟩] scope pos) spos) (LfS X.K (wAsg (.nm i) (wr (wLc src t tt w (own.map (·.2)))))) := ps_weak (ps_setLc hc hN hy hyl hsw hi ok hg ht he hs) fun D σ H q => by
  have z := s_asgT D σ H q
  unfold tgH at z
  exact lc_T hown _ _ _ (hwr _ _ _ _ _ z)

/-! ### built-in functions by values -/
abbrev FN := List Mv → Mh → (Mv → Mh → Prop) → Prop
def CallM (K : PySem.W.Frag) (r : List V → Hp → VK → Prop) (f : FN) : Prop := ∀ {vs : List V} {ms : List Mv} {R : Addr → Prop} {h : Mh} {H : Hp} {Qm : Mv → Mh → Prop} {Q : VK}, Sim K R h H → Reps K R h H ms vs → f ms h Qm → Want K R h H Qm Q → r vs H Q
def wCB (f : FN) (wa : WA) : WE := fun e h Q => wa e h fun ms h1 => f ms h1 Q
theorem j_tCB {K : PySem.W.Frag} {r : List V → Hp → VK → Prop} {f : FN} {wa : WA} (m : CallM K r f) (σ : L2.St) (H : Hp) (Q : VK) (q : Lf K (wCB f wa) σ H Q) : tCB r (LfA K wa) σ H Q := by
  obtain ⟨R, e, h, Qm, s, rr, q, k⟩ := q
  exact ⟨R, e, h, _, s, rr, q, fun m1 h1 v1 H1 q1 f1 s1 r1 => m s1 r1 q1 fun m3 h3 v3 H3 q3 f3 s3 r3 => k m3 h3 v3 H3 q3 (f1.trans f3) s3 r3⟩
theorem j_cb {r : List V → Hp → VK → Prop} {f : FN} {wa : WA} (m : CallM X.K r f) (p : PE X e (tCB r (LfA X.K wa))) : PE X e (Lf X.K (wCB f wa)) := pe_weak p (j_tCB m)
def fLen : FN := fun ms h Q => match ms with
  | [.tup xs] => Q (.int xs.length) h
  | [.vl xs] => Q (.int xs.length) h
  | [.sc xs] => Q (.int xs.length) h
  | [.str x] => x.length ≤ 100000 ∧ Q (.int x.length) h
  | [.ref a] => ∃ xs, h a = some (.lst xs) ∧ Q (.int xs.length) h
  | _ => False
def rLenA (K : PySem.W.Frag) : List V → Hp → VK → Prop := fun xs H Q => ∃ x n, xs = [x] ∧ LenV K x H n ∧ Q (.int n) H
theorem CallR.or {f : Value} {r r' : List V → Hp → VK → Prop} (h : CallR X f r) (h' : CallR X f r') : CallR X f (fun xs H Q => r xs H Q ∨ r' xs H Q) := fun pins s σ H xs us Q I rv q => q.elim (h pins s σ H xs us Q I rv) (h' pins s σ H xs us Q I rv)
theorem call_lenA : CallR X (.builtin "len") (rLenA X.K) := call_len
theorem m_len {K : PySem.W.Frag} : CallM K (rLenA K) fLen := fun {vs ms R h H Qm Q} s rs q w => by
  unfold fLen at q
  split at q
  · cases rs with | cons r t => cases t; cases r with | tup fz r => exact ⟨_, _, rfl, .inr ⟨_, fz.sq, rfl⟩, by rw [r.length]; exact w.go s q (.int _)⟩
  · cases rs with | cons r t => cases t; cases r with | vl fz r => exact ⟨_, _, rfl, .inl ⟨_, fz.sq, rfl⟩, by rw [r.length]; exact w.go s q (.int _)⟩
  · cases rs with | cons r t => cases t; cases r with | sc fz r => exact ⟨_, _, rfl, .inl ⟨_, fz.sq, rfl⟩, by rw [r.length]; exact w.go s q (.int _)⟩
  · cases rs with | cons r t => cases t; cases r; exact ⟨_, _, rfl, ⟨sz_line q.1, rfl⟩, w.go s q.2 (.int _)⟩
  · cases rs with
    | cons r t =>
      cases t; cases r
      obtain ⟨xs, ea, q⟩ := q
      obtain ⟨vs, e0, r⟩ := s.sq ea
      exact ⟨_, _, rfl, .inl ⟨_, SqL.of e0, rfl⟩, by rw [r.length]; exact w.go s q (.int _)⟩
  · exact q.elim
def f1I (g : Int → Mv) : FN := fun ms h Q => match ms with | [.int i] => Q (g i) h | _ => False
def fAbs : FN := f1I fun i => .int (if i < 0 then -i else i)
theorem m_abs {K : PySem.W.Frag} : CallM K (fun xs H Q => ∃ i, xs = [.int i] ∧ Q (.int (if i < 0 then -i else i)) H) fAbs := fun {vs ms R h H Qm Q} s rs q w => by
  unfold fAbs f1I at q
  split at q
  · cases rs with | cons r t => cases t; cases r; exact ⟨_, rfl, w.go s q (.int _)⟩
  · exact q.elim
def f2I (g : Int → Int → Mv) : FN := fun ms h Q => match ms with | [.int i, .int j] => Q (g i j) h | _ => False
def fMin2 : FN := f2I fun i j => .int (if j < i then j else i)
def fMax2 : FN := f2I fun i j => .int (if j > i then j else i)
theorem m_2I {K : PySem.W.Frag} {g : Int → Int → Int} : CallM K (fun xs H Q => ∃ i j, xs = [.int i, .int j] ∧ Q (.int (g i j)) H) (f2I fun i j => .int (g i j)) := fun {vs ms R h H Qm Q} s rs q w => by
  unfold f2I at q
  split at q
  · cases rs with | cons r t => cases t with | cons r2 t => cases t; cases r; cases r2; exact ⟨_, _, rfl, w.go s q (.int _)⟩
  · exact q.elim
def fInt : FN := fun ms h Q => match ms with | [.int i] => Q (.int i) h | [.bl k] => Q (.int (if k then 1 else 0)) h | _ => False
theorem m_int {K : PySem.W.Frag} : CallM K (fun xs H Q => (∃ i, xs = [.int i] ∧ Q (.int i) H) ∨ ∃ k, xs = [.bl k] ∧ Q (.int (if k then 1 else 0)) H) fInt := fun {vs ms R h H Qm Q} s rs q w => by
  unfold fInt at q
  split at q
  · cases rs with | cons r t => cases t; cases r; exact .inl ⟨_, rfl, w.go s q (.int _)⟩
  · cases rs with | cons r t => cases t; cases r; exact .inr ⟨_, rfl, w.go s q (.int _)⟩
  · exact q.elim
/-- all, any of a list of truths -/
def fBls (g : List Bool → Bool) : FN := fun ms h Q => match ms with | [.vl xs] => ∃ bs, xs = bs.map Mv.bl ∧ Q (.bl (g bs)) h | _ => False
def fAll : FN := fBls fun bs => bs.all id
def fAny : FN := fBls fun bs => bs.any id
theorem m_bls {K : PySem.W.Frag} {g : List Bool → Bool} : CallM K (fun vs H Q => ∃ (a : Addr) (bs : List Bool), vs = [V.ref a] ∧ SqL K H a (bs.map V.bl) ∧ Q (.bl (g bs)) H) (fBls g) := fun {vs ms R h H Qm Q} s rs q w => by
  unfold fBls at q
  split at q
  · obtain ⟨bs, rfl, q⟩ := q
    cases rs with | cons r t => cases t; cases r with | vl fz r => exact ⟨_, bs, rfl, by rw [← r.bls]; exact fz.sq, w.go s q (.bl _)⟩
  · exact q.elim
theorem m_all {K : PySem.W.Frag} : CallM K (rAll K) fAll := m_bls
theorem m_any {K : PySem.W.Frag} : CallM K (rAny K) fAny := m_bls
/-- isinstance(x, C), C a built-in class -/
def tyN : Mv → Mh → String → Prop
  | .non, _, n => n = "NoneType" | .bl _, _, n => n = "bool" | .int _, _, n => n = "int" | .str _, _, n => n = "str" | .tup _, _, n => n = "tuple" | .vl _, _, n => n = "list" | .sc _, _, n => n = "list" | .vd _ _, _, n => n = "dict"
  | .ref a, h, n => (n = "list" ∧ ∃ xs, h a = some (.lst xs)) ∨ (n = "dict" ∧ ∃ ks xs, h a = some (.dct ks xs))
  | .ty _, _, _ => False
def fIsi : FN := fun ms h Q => match ms with | [x, .ty n] => ∃ t b, tyN x h t ∧ kitB t n = some b ∧ Q (.bl b) h | _ => False
theorem Rep.tyX {K : PySem.W.Frag} {R : Addr → Prop} {h : Mh} {H : Hp} {m : Mv} {v : V} {n : String} (s : Sim K R h H) (r : Rep K R h H m v) (t : tyN m h n) : TyX K H v (.type n) := by
  cases r with
  | non => cases t; exact .base .non
  | bl b => cases t; exact .base (.bl _)
  | int b => cases t; exact .base (.int _)
  | str b => cases t; exact .base (.str _)
  | ty b => exact t.elim
  | tup fz r =>
    cases t
    rcases fz with ⟨z | ⟨o, z⟩, _⟩ | ⟨o, its, k, z, c, _⟩
    · exact .base (.tup z)
    · exact .fTuple z
    · exact .kTuple z c
  | vl fz r =>
    cases t
    rcases fz with ⟨z | ⟨o, z⟩, _⟩
    · exact .base (.lst z)
    · exact .base (.frz z)
  | sc fz r =>
    cases t
    rcases fz with ⟨z | ⟨o, z⟩, _⟩ | ⟨o, its, k, z, c, _⟩
    · exact .base (.lst z)
    · exact .base (.frz z)
    · exact .kList z c
  | vd fz e r =>
    cases t
    rcases fz with ⟨z | ⟨o, z⟩, _⟩
    · exact .base (.dK z)
    · exact .fDict z
  | ref a =>
    rcases t with ⟨rfl, xs, e⟩ | ⟨rfl, ks, xs, e⟩
    · obtain ⟨vs, e0, _⟩ := s.ob a _ e
      exact .base (.lst e0)
    · obtain ⟨vs, e0, _⟩ := s.ob a _ e
      exact .base (.dK e0)
theorem m_isi {K : PySem.W.Frag} : CallM K (rIsi K) fIsi := fun {vs ms R h H Qm Q} s rs q w => by
  unfold fIsi at q
  split at q
  · obtain ⟨t, b, ht, hb, q⟩ := q
    cases rs with | cons r tl => cases tl with | cons r2 tl => cases tl; cases r2; exact ⟨_, _, _, _, b, rfl, .ty _, r.tyX s ht, kit_ty hb, w.go s q (.bl _)⟩
  · exact q.elim

/-! ### defs -/
def spL (K : PySem.W.Frag) (S : Sig) : Sp := fun vs H Q _ => ∃ R ms h Qm, Sim K R h H ∧ Reps K R h H ms vs ∧ S ms h Qm ∧ Want K R h H Qm Q
inductive KReps (K : PySem.W.Frag) : List Mv → List V → Prop
  | nil : KReps K [] []
  | cons {m : Mv} {v : V} {ms : List Mv} {vs : List V} : KRep K m v → KReps K ms vs → KReps K (m :: ms) (v :: vs)
theorem KReps.all {K : PySem.W.Frag} {R : Addr → Prop} {h : Mh} {H : Hp} : ∀ {ms : List Mv} {vs : List V}, KReps K ms vs → Reps K R h H ms vs
  | _, _, .nil => .nil
  | _, _, .cons r t => .cons (r _ _ _) t.all
def startE (n : Nat) (ms : List Mv) : Env := ms.map some ++ List.replicate (n - ms.length) none
/-- a def as it is called by its places: dms what its defaults are -/
structure CalP (P : Program) (w : World) (K : PySem.W.Frag) (mg : Str → Option Value) (base : Heap) (k : Nat) (x : Str) (dms : List Mv) (S : Sig) : Prop where
  ex : ∃ (f : Addr) (fd : FuncData) (ps : List Str) (ds : List Value) (dvs : List V), FnOk P w K mg base CX0 k f fd ps (spL K S) ∧ mg x = some (.ref f) ∧ PySem.W.keepIn K (.ref f) = true ∧ Binds K fd ps ds ∧ Vals dvs ds ∧ KReps K dms dvs
/-- .. and with keywords: n places, keywords ks, g puts all in order -/
structure CalK (P : Program) (w : World) (K : PySem.W.Frag) (mg : Str → Option Value) (base : Heap) (k : Nat) (x : Str) (n : Nat) (ks : List Str) (g : List Mv → List Mv → List Mv) (S : Sig) : Prop where
  ex : ∃ (f : Addr) (fd : FuncData) (ps : List Str) (gv : List Value → List Value → List Value) (gV : List V → List V → List V), FnOk P w K mg base CX0 k f fd ps (spL K S) ∧ mg x = some (.ref f) ∧ PySem.W.keepIn K (.ref f) = true ∧ KBn K fd ps n ks gv gV ∧
    ∀ R h H ms vs ns us, Reps K R h H ms vs → Reps K R h H ns us → ms.length = n → ns.length = ks.length → Reps K R h H (g ms ns) (gV vs us)
def wCall (S : Sig) (dms : List Mv) (wa : WA) : WE := fun e h Q => wa e h fun ms h1 => S (ms ++ dms) h1 Q
def wCallK (S : Sig) (n k : Nat) (g : List Mv → List Mv → List Mv) (wa wk : WA) : WE := fun e h Q => wa e h fun ms h1 => wk e h1 fun ns h2 => ms.length = n ∧ ns.length = k ∧ S (g ms ns) h2 Q
variable {k j : Nat} {x : Str} {p : Pos} {es : List Expr}
theorem j_call {S : Sig} {dms : List Mv} {wa : WA} (C : CalP X.prog X.w X.K X.mg X.base k x dms S) (hr : Room j X.A) (hk : k ≤ j) (hg : Gl X x) (ha : PA X (e :: es) (LfA X.K wa)) (hdb : (x == ("__debug__" : Str)) = false := by decide)
    (he : starEach (e :: es) X.env = (false, eval e X.env) :: starEach es X.env := by rfl) (hpl : (backTo pos (starEach es X.env)).any (·.1) = false := by rfl) :
    PE X (.Call (.Name x p) (e :: es) [] pos) (Lf X.K (wCall S dms wa)) := by
  obtain ⟨f, fd, ps, ds, dvs, F, hm, hkeep, hb, hd, hr2⟩ := C.ex
  exact pe_weak (pe_call F (hr.mono hk) hg hm hkeep hb hd pass0 ha hdb he hpl) fun σ H Q ⟨R, e, h, Qm, s, rr, q, k⟩ =>
    ⟨R, e, h, _, s, rr, q, fun m1 h1 v1 H1 q1 f1 s1 r1 => ⟨R, _, h1, Qm, s1, r1.append hr2.all, q1, fun m3 h3 v3 H3 q3 f3 s3 r3 => k m3 h3 v3 H3 q3 (f1.trans f3) s3 r3⟩⟩
theorem j_callK {S : Sig} {n kk : Nat} {ks : List Str} {g : List Mv → List Mv → List Mv} {kws : List Keyword} {wa wk : WA} (C : CalK X.prog X.w X.K X.mg X.base k x n ks g S) (hkk : ks.length = kk) (hr : Room j X.A) (hk : k ≤ j) (hg : Gl X x) (ha : PA X (e :: es) (LfA X.K wa)) (hkw : PK X kws (LfA X.K wk))
    (hall : (backToKw pos (keywordEach kws X.env)).all (·.1.isSome) = true := by rfl) (hks : (backToKw pos (keywordEach kws X.env)).filterMap (·.1) = ks := by rfl) (hdb : (x == ("__debug__" : Str)) = false := by decide)
    (he : starEach (e :: es) X.env = (false, eval e X.env) :: starEach es X.env := by rfl) (hpl : ((backTo pos (starEach (e :: es) X.env)).any (·.1) || (backToKw pos (keywordEach kws X.env)).any (·.1.isNone)) = false := by rfl) :
    PE X (.Call (.Name x p) (e :: es) kws pos) (Lf X.K (wCallK S n kk g wa wk)) := by
  obtain ⟨f, fd, ps, gv, gV, F, hm, hkeep, hb, hrel⟩ := C.ex
  exact pe_weak (pe_callN F (hr.mono hk) hg hm hkeep hb pass0 ha hkw hall hks hdb he hpl) fun σ H Q ⟨R, e, h, Qm, s, rr, q, k⟩ =>
    ⟨R, e, h, _, s, rr, q, fun m1 h1 v1 H1 q1 f1 s1 r1 => ⟨R, e, h1, _, s1, rr.mono f1.fz, q1, fun m2 h2 v2 H2 q2 f2 s2 r2 => ⟨by rw [r1.length]; exact q2.1, by rw [r2.length, hkk]; exact q2.2.1,
      R, _, h2, Qm, s2, hrel R h2 H2 _ _ _ _ (r1.mono f2.fz) r2 q2.1 (q2.2.1.trans hkk.symm), q2.2.2, fun m3 h3 v3 H3 q3 f3 s3 r3 => k m3 h3 v3 H3 q3 ((f1.trans f2).trans f3) s3 r3⟩⟩⟩
end
/-- THE RULE for a def -/
theorem fn_mv {P : Program} {w : World} {K : PySem.W.Frag} {mg : Str → Option Value} {base : Heap} {x qual : Str} {params : Arguments} {body : List Stmt} {scope : Scope} {dvs : List V} {kws : List (Str × V)} {f : Addr} {fd : FuncData}
    {N ps : List Str} {k : Nat} {S : Sig} {ws : WS} (F : FunD K x qual params body scope dvs kws f fd) (Sc : FnScope N ps scope) (len : ∀ ms h Q, S ms h Q → ms.length = ps.length)
    (hb : ∀ (cdv : Value) (A : Around) (outer : List PySem.Env) (s : Shared) (H : Hp) (E : XK), Room k (A.deeper (envOfC qual scope s.heap.objs.size f cdv)) → PSs (cxOf CX0 P w K mg base N qual scope f cdv A outer s H E).nox body (LfS K ws))
    (hm : ∀ ms h Q, S ms h Q → ws ⟨fun _ h' => Q .non h', Q, fun _ _ => False, fun _ _ => False⟩ (startE N.length ms) h) : FnOk P w K mg base CX0 (k + 1) f fd ps (spL K S) :=
  F.ok Sc (fun vs H Q E ⟨R, ms, h, Qm, s, rr, q, k⟩ => by rw [rr.length]; exact len ms h Qm q) fun cdv A outer s H vs Q E hr ⟨R, ms, h, Qm, si, rr, q, k⟩ =>
    ⟨_, (hb cdv A outer s H E hr).nox, R, startE N.length ms, h, _, si, by
      unfold startE L2.start
      rw [← rr.length]
      exact RelE.start _ rr, hm ms h Qm q, ⟨fun e' h' σ' H' q' f' s' r' => k _ h' _ H' q' f' s' .non, k, fun _ _ _ _ z => z.elim, fun _ _ _ _ z => z.elim⟩⟩
end Rv

namespace Rv
open PySem PySem.Spec PyProof.Rows L2

/-! ### a, b = x, y -/
def wPar (i j : Nat) (wa : WA) : WS := fun D e h => wa e h fun ms h1 => match ms with | [x, y] => D.nx (setE (setE e i x) j y) h1 | _ => False
def wPar3 (i j l : Nat) (wa : WA) : WS := fun D e h => wa e h fun ms h1 => match ms with | [x, y, z] => D.nx (setE (setE (setE e i x) j y) l z) h1 | _ => False
section
variable {X : Cx} {a b c e : Expr} {pos : Pos} {w wa wb : WE}
theorem s_par {i j : Nat} {x y : Str} {px py pt : Pos} {kt : Nat} {k2 : Nat} {pt2 : Pos} {ws : WA} (hN : X.N.Nodup) (hi : X.N[i]? = some x) (hj : X.N[j]? = some y) (hij : i ≠ j)
    (hx : X.env.scope.names.lookup x = some .local) (hy : X.env.scope.names.lookup y = some .local) (ha : PA X [a, b] (LfA X.K ws))
    (hw : swappedStores [.Tuple [.Name x px, .Name y py] kt pt] (.Tuple [a, b] k2 pt2) X.env = pure (some [x, y])) (hc : X.calm = true := by rfl)
    (hs : swapsWithSole [.Tuple [.Name x px, .Name y py] kt pt] (.Tuple [a, b] k2 pt2) pos.line X.env = pure false := by rfl) :
    PS X (.Assign [.Tuple [.Name x px, .Name y py] kt pt] (.Tuple [a, b] k2 pt2) pos) (LfS X.K (wPar i j ws)) := ps_weak (ps_par hc hN hi hj hij hx hy ha hw hs) fun D σ H ⟨R, e, h, Dm, s, rr, q, k⟩ =>
  ⟨R, e, h, _, s, rr, q, fun m1 h1 v1 H1 q1 f1 s1 r1 => by
    cases r1 with
    | nil => exact q1.elim
    | cons r1 t =>
      cases t with
      | nil => exact q1.elim
      | cons r2 t =>
        cases t with
        | cons _ _ => exact q1.elim
        | nil => exact ⟨_, _, rfl, k.nx _ h1 _ H1 q1 f1 s1 (((rr.mono f1.fz).set i r1).set j r2)⟩⟩
theorem s_par3 {i j l : Nat} {x y z : Str} {px py pz pt : Pos} {kt : Nat} {k2 : Nat} {pt2 : Pos} {ws : WA} (hN : X.N.Nodup) (hi : X.N[i]? = some x) (hj : X.N[j]? = some y) (hl : X.N[l]? = some z) (hij : i ≠ j) (hil : i ≠ l) (hjl : j ≠ l)
    (hx : X.env.scope.names.lookup x = some .local) (hy : X.env.scope.names.lookup y = some .local) (hz : X.env.scope.names.lookup z = some .local) (ha : PA X [a, b, c] (LfA X.K ws))
    (hw : swappedStores [.Tuple [.Name x px, .Name y py, .Name z pz] kt pt] (.Tuple [a, b, c] k2 pt2) X.env = pure (some [x, y, z])) (hc : X.calm = true := by rfl)
    (hs : swapsWithSole [.Tuple [.Name x px, .Name y py, .Name z pz] kt pt] (.Tuple [a, b, c] k2 pt2) pos.line X.env = pure false := by rfl) :
    PS X (.Assign [.Tuple [.Name x px, .Name y py, .Name z pz] kt pt] (.Tuple [a, b, c] k2 pt2) pos) (LfS X.K (wPar3 i j l ws)) := ps_weak (ps_par3 hc hN hi hj hl hij hil hjl hx hy hz ha hw hs) fun D σ H ⟨R, e, h, Dm, s, rr, q, k⟩ =>
  ⟨R, e, h, _, s, rr, q, fun m1 h1 v1 H1 q1 f1 s1 r1 => by
    cases r1 with
    | nil => exact q1.elim
    | cons r1 t =>
      cases t with
      | nil => exact q1.elim
      | cons r2 t =>
        cases t with
        | nil => exact q1.elim
        | cons r3 t =>
          cases t with
          | cons _ _ => exact q1.elim
          | nil => exact ⟨_, _, _, rfl, k.nx _ h1 _ H1 q1 f1 s1 ((((rr.mono f1.fz).set i r1).set j r2).set l r3)⟩⟩

/-! ### lists put together -/
theorem lst_at {pins : List (Addr × Obj)} {σ : L2.St} {H : Hp} {s : Shared} {l : Addr} {xs : List V} (I : Inv X pins σ H s) (r : Rd H l (.lst xs)) : xs.length ≤ sizeLine ∧ ∃ (its : List Value) (n : Nat), Vals xs its ∧ xs.length = its.length ∧ s.heap.get? l = some { cls := .type "list", data := .seq its.toArray n } := by
  have q := r.ok I.hok
  obtain ⟨z, its, n, rv, e⟩ := q
  exact ⟨z, its, n, rv, rv.length, e⟩
def rCatR : R2 := fun x y H Q => ∃ l b xs zs, x = .ref l ∧ y = .ref b ∧ Rd H l (.lst xs) ∧ Rd H b (.lst zs) ∧ xs.length + zs.length ≤ sizeLine ∧ ∀ p, H p = none → Q (.ref p) (upd H p (.lst (xs ++ zs)))
theorem op_catR : OpR X (binaryOp .Add) rCatR := fun pins s σ H x y v u Q I rx ry h => by
  obtain ⟨l, b, xs, zs, rfl, rfl, h1, h2, hz, q⟩ := h
  cases rx; cases ry
  obtain ⟨z, its, n, r, hl, e⟩ := lst_at I h1
  obtain ⟨z2, its2, n2, r2, hl2, e2⟩ := lst_at I h2
  refine PySem.P.add_list e e2 ?_ (by simp only [List.size_toArray]; omega)
  rw [show its.toArray ++ its2.toArray = (its ++ its2).toArray by simp]
  exact ⟨V.ref _, _, I.lnew (t' := s.toks) (r.append r2) (by simp only [List.length_append]; omega), rfl, q _ I.fresh⟩
/-- a list's items, whatever it is -/
def lstOf (m : Mv) (h : Mh) (xs : List Mv) : Prop := match m with | .vl ys => ys = xs | .ref a => h a = some (.lst xs) | _ => False
theorem lstOf.rd {K : PySem.W.Frag} {R : Addr → Prop} {h : Mh} {H : Hp} {m : Mv} {v : V} {xs : List Mv} (s : Sim K R h H) (r : Rep K R h H m v) (q : lstOf m h xs) : ∃ a vs, v = .ref a ∧ Rd H a (.lst vs) ∧ Reps K R h H xs vs := by
  cases r <;> first | exact q.elim | skip
  · rename_i fz rs
    cases q
    exact ⟨_, _, rfl, fz.1, rs⟩
  · obtain ⟨vs, e, rs⟩ := s.ob _ _ q
    exact ⟨_, vs, rfl, .inl e, rs⟩
def wCatL (wa wb : WE) : WA := fun e h Q => wa e h fun x h1 => wb e h1 fun y h2 => ∃ xs ys, lstOf x h2 xs ∧ lstOf y h2 ys ∧ xs.length + ys.length ≤ 100000 ∧ Q (xs ++ ys) h2
/-- what a new list asks -/
theorem new_lst {K : PySem.W.Frag} {R : Addr → Prop} {h h1 : Mh} {H H1 : Hp} {Qm : List Mv → Mh → Prop} {Q : VK} (k : ∀ ms h' p vs H', Qm ms h' → Fr R h H h' H' → Sim K (Plus R p) h' H' → ¬ R p → (h p = none → H p = none) → H' p = some (.lst vs) → Reps K (Plus R p) h' H' ms vs → Q (.ref p) H')
    (f : Fr R h H h1 H1) (s : Sim K R h1 H1) {xs : List Mv} {vs : List V} (r : Reps K R h1 H1 xs vs) (q : Qm xs h1) {p : Addr} (hp : H1 p = none) : Q (.ref p) (upd H1 p (.lst vs)) := by
  refine k xs h1 p vs _ q (f.trans (Fr.new hp)) (s.plus hp) (s.freshR hp) (fun y => ?_) upd_same (r.mono (Ft.plus hp))
  cases z : H p with
  | none => rfl
  | some o =>
    by_cases rp : R p
    · rw [f.rs _ _ rp z] at hp; cases hp
    · rw [(f.fz _ _ z y rp).1] at hp; cases hp
theorem j_catL (ha : PE X a (Lf X.K wa)) (hb : PE X b (Lf X.K wb)) : PE X (.BinOp a .Add b pos) (LfL X.K (wCatL wa wb)) := pe_weak (pe_op op_catR ha hb) fun σ H Q ⟨R, e, h, Qm, s, rr, q, k⟩ =>
  ⟨R, e, h, _, s, rr, q, fun m1 h1 v1 H1 q1 f1 s1 r1 => ⟨R, e, h1, _, s1, rr.mono f1.fz, q1, fun m2 h2 v2 H2 q2 f2 s2 r2 => by
    obtain ⟨xs, ys, l1, l2, hz, q⟩ := q2
    obtain ⟨p1, vs1, rfl, d1, s1'⟩ := l1.rd s2 (r1.mono f2.fz)
    obtain ⟨p2, vs2, rfl, d2, s2'⟩ := l2.rd s2 r2
    exact ⟨p1, p2, vs1, vs2, rfl, rfl, d1, d2, by rw [s1'.length, s2'.length]; exact sz_line hz, fun p hp => new_lst k (f1.trans f2) s2 (s1'.append s2') q hp⟩⟩⟩
end
/-! ### keywords alone -/
section
variable {K : PySem.W.Frag} {x qual : Str} {params : Arguments} {body : List Stmt} {scope : Scope} {dvs : List V} {kws : List (Str × V)} {f : Addr} {fd : FuncData} {ps : List Str}
theorem _root_.L2.FunD.kbinds0 (F : FunD K x qual params body scope [] kws f fd) (n : Nat) (ks : List Str) (g : List Value → List Value → List Value) (gV : List V → List V → List V)
    (h : ∀ (kV doc pm : Value) (an : Option Addr) (cdv ct : Value) (us ws : List Value), us.length = n → ws.length = ks.length → bindArgs (PySem.W.fnOf x qual params body scope .none kV doc pm an cdv ct) ⟨us, ks.zip ws⟩ = pure (ps.zip (g us ws)))
    (hrel : ∀ {vs : List V} {us : List Value} {zs : List V} {ws : List Value}, Vals vs us → Vals zs ws → Vals (gV vs zs) (g us ws)) : KBn K fd ps n ks g gV := by
  obtain ⟨oc, od, dV, kV, doc, pm, an, cdv, ct, osl, rfl, lk, hcd, hD, hK⟩ := F.ex
  rcases hD with ⟨_, rfl⟩ | ⟨e, _⟩
  · exact ⟨fun s us ws _ l1 l2 => .of_eq (h kV doc pm an cdv ct us ws l1 l2), hrel⟩
  · exact absurd rfl e
end
theorem law_start {K : PySem.W.Frag} {S : Sig} {H : Hp} {a : Addr} {ns : List Int} {E : XK} (hS : ∀ (ns : List Int) (Q : Mv → Mh → Prop), ns.length ≤ 63 → (∀ h, Q (.bl true) h) → S [.sc (ns.map Mv.int)] (fun _ => none) Q) (hl : ns.length ≤ 63) (hO : Only H) (h : SqL K H a (ns.map V.int)) :
    spL K S [.ref a] H (fun v _ => v = .bl true) E := by
  refine ⟨fun _ => False, [.sc (ns.map Mv.int)], fun _ => none, fun m _ => m = .bl true, ⟨fun _ _ e => (by cases e), fun _ r => r.elim⟩, .cons (.sc ?_ Reps.ofInts) .nil, hS ns _ hl fun _ => rfl, fun m h' v H' q _ _ r => ?_⟩
  · rcases h with r | r
    · exact .inl ⟨r, rfl, id⟩
    · exact .inr r
  · subst q
    exact r.bl_inv
end Rv

namespace Rv
open PySem PySem.Spec PyProof.Rows L2
theorem fIsi_of {x : Mv} {n t : String} {b : Bool} {h : Mh} {Q : Mv → Mh → Prop} (ht : tyN x h t) (hu : ∀ u, tyN x h u → u = t) (hb : kitB t n = some b) : fIsi [x, .ty n] h Q = Q (.bl b) h := by
  refine propext ⟨fun ⟨u, c, h1, h2, q⟩ => ?_, fun q => ⟨t, b, ht, hb, q⟩⟩
  have e := hu u h1
  subst e
  rw [hb] at h2
  cases h2
  exact q
theorem isi_non_int  {h : Mh} {Q : Mv → Mh → Prop} : fIsi [Mv.non, .ty "int"] h Q = Q (.bl false) h := fIsi_of (t := "NoneType") rfl (fun _ z => z) (by decide +kernel)
theorem isi_non_bool  {h : Mh} {Q : Mv → Mh → Prop} : fIsi [Mv.non, .ty "bool"] h Q = Q (.bl false) h := fIsi_of (t := "NoneType") rfl (fun _ z => z) (by decide +kernel)
theorem isi_non_str  {h : Mh} {Q : Mv → Mh → Prop} : fIsi [Mv.non, .ty "str"] h Q = Q (.bl false) h := fIsi_of (t := "NoneType") rfl (fun _ z => z) (by decide +kernel)
theorem isi_non_tuple  {h : Mh} {Q : Mv → Mh → Prop} : fIsi [Mv.non, .ty "tuple"] h Q = Q (.bl false) h := fIsi_of (t := "NoneType") rfl (fun _ z => z) (by decide +kernel)
theorem isi_non_list  {h : Mh} {Q : Mv → Mh → Prop} : fIsi [Mv.non, .ty "list"] h Q = Q (.bl false) h := fIsi_of (t := "NoneType") rfl (fun _ z => z) (by decide +kernel)
theorem isi_non_dict  {h : Mh} {Q : Mv → Mh → Prop} : fIsi [Mv.non, .ty "dict"] h Q = Q (.bl false) h := fIsi_of (t := "NoneType") rfl (fun _ z => z) (by decide +kernel)
theorem isi_bl_int {a : Bool} {h : Mh} {Q : Mv → Mh → Prop} : fIsi [(Mv.bl a), .ty "int"] h Q = Q (.bl true) h := fIsi_of (t := "bool") rfl (fun _ z => z) (by decide +kernel)
theorem isi_bl_bool {a : Bool} {h : Mh} {Q : Mv → Mh → Prop} : fIsi [(Mv.bl a), .ty "bool"] h Q = Q (.bl true) h := fIsi_of (t := "bool") rfl (fun _ z => z) (by decide +kernel)
theorem isi_bl_str {a : Bool} {h : Mh} {Q : Mv → Mh → Prop} : fIsi [(Mv.bl a), .ty "str"] h Q = Q (.bl false) h := fIsi_of (t := "bool") rfl (fun _ z => z) (by decide +kernel)
theorem isi_bl_tuple {a : Bool} {h : Mh} {Q : Mv → Mh → Prop} : fIsi [(Mv.bl a), .ty "tuple"] h Q = Q (.bl false) h := fIsi_of (t := "bool") rfl (fun _ z => z) (by decide +kernel)
theorem isi_bl_list {a : Bool} {h : Mh} {Q : Mv → Mh → Prop} : fIsi [(Mv.bl a), .ty "list"] h Q = Q (.bl false) h := fIsi_of (t := "bool") rfl (fun _ z => z) (by decide +kernel)
theorem isi_bl_dict {a : Bool} {h : Mh} {Q : Mv → Mh → Prop} : fIsi [(Mv.bl a), .ty "dict"] h Q = Q (.bl false) h := fIsi_of (t := "bool") rfl (fun _ z => z) (by decide +kernel)
theorem isi_int_int {a : Int} {h : Mh} {Q : Mv → Mh → Prop} : fIsi [(Mv.int a), .ty "int"] h Q = Q (.bl true) h := fIsi_of (t := "int") rfl (fun _ z => z) (by decide +kernel)
theorem isi_int_bool {a : Int} {h : Mh} {Q : Mv → Mh → Prop} : fIsi [(Mv.int a), .ty "bool"] h Q = Q (.bl false) h := fIsi_of (t := "int") rfl (fun _ z => z) (by decide +kernel)
theorem isi_int_str {a : Int} {h : Mh} {Q : Mv → Mh → Prop} : fIsi [(Mv.int a), .ty "str"] h Q = Q (.bl false) h := fIsi_of (t := "int") rfl (fun _ z => z) (by decide +kernel)
theorem isi_int_tuple {a : Int} {h : Mh} {Q : Mv → Mh → Prop} : fIsi [(Mv.int a), .ty "tuple"] h Q = Q (.bl false) h := fIsi_of (t := "int") rfl (fun _ z => z) (by decide +kernel)
theorem isi_int_list {a : Int} {h : Mh} {Q : Mv → Mh → Prop} : fIsi [(Mv.int a), .ty "list"] h Q = Q (.bl false) h := fIsi_of (t := "int") rfl (fun _ z => z) (by decide +kernel)
theorem isi_int_dict {a : Int} {h : Mh} {Q : Mv → Mh → Prop} : fIsi [(Mv.int a), .ty "dict"] h Q = Q (.bl false) h := fIsi_of (t := "int") rfl (fun _ z => z) (by decide +kernel)
theorem isi_str_int {a : Str} {h : Mh} {Q : Mv → Mh → Prop} : fIsi [(Mv.str a), .ty "int"] h Q = Q (.bl false) h := fIsi_of (t := "str") rfl (fun _ z => z) (by decide +kernel)
theorem isi_str_bool {a : Str} {h : Mh} {Q : Mv → Mh → Prop} : fIsi [(Mv.str a), .ty "bool"] h Q = Q (.bl false) h := fIsi_of (t := "str") rfl (fun _ z => z) (by decide +kernel)
theorem isi_str_str {a : Str} {h : Mh} {Q : Mv → Mh → Prop} : fIsi [(Mv.str a), .ty "str"] h Q = Q (.bl true) h := fIsi_of (t := "str") rfl (fun _ z => z) (by decide +kernel)
theorem isi_str_tuple {a : Str} {h : Mh} {Q : Mv → Mh → Prop} : fIsi [(Mv.str a), .ty "tuple"] h Q = Q (.bl false) h := fIsi_of (t := "str") rfl (fun _ z => z) (by decide +kernel)
theorem isi_str_list {a : Str} {h : Mh} {Q : Mv → Mh → Prop} : fIsi [(Mv.str a), .ty "list"] h Q = Q (.bl false) h := fIsi_of (t := "str") rfl (fun _ z => z) (by decide +kernel)
theorem isi_str_dict {a : Str} {h : Mh} {Q : Mv → Mh → Prop} : fIsi [(Mv.str a), .ty "dict"] h Q = Q (.bl false) h := fIsi_of (t := "str") rfl (fun _ z => z) (by decide +kernel)
theorem isi_tup_int {a : List Mv} {h : Mh} {Q : Mv → Mh → Prop} : fIsi [(Mv.tup a), .ty "int"] h Q = Q (.bl false) h := fIsi_of (t := "tuple") rfl (fun _ z => z) (by decide +kernel)
theorem isi_tup_bool {a : List Mv} {h : Mh} {Q : Mv → Mh → Prop} : fIsi [(Mv.tup a), .ty "bool"] h Q = Q (.bl false) h := fIsi_of (t := "tuple") rfl (fun _ z => z) (by decide +kernel)
theorem isi_tup_str {a : List Mv} {h : Mh} {Q : Mv → Mh → Prop} : fIsi [(Mv.tup a), .ty "str"] h Q = Q (.bl false) h := fIsi_of (t := "tuple") rfl (fun _ z => z) (by decide +kernel)
theorem isi_tup_tuple {a : List Mv} {h : Mh} {Q : Mv → Mh → Prop} : fIsi [(Mv.tup a), .ty "tuple"] h Q = Q (.bl true) h := fIsi_of (t := "tuple") rfl (fun _ z => z) (by decide +kernel)
theorem isi_tup_list {a : List Mv} {h : Mh} {Q : Mv → Mh → Prop} : fIsi [(Mv.tup a), .ty "list"] h Q = Q (.bl false) h := fIsi_of (t := "tuple") rfl (fun _ z => z) (by decide +kernel)
theorem isi_tup_dict {a : List Mv} {h : Mh} {Q : Mv → Mh → Prop} : fIsi [(Mv.tup a), .ty "dict"] h Q = Q (.bl false) h := fIsi_of (t := "tuple") rfl (fun _ z => z) (by decide +kernel)
theorem isi_vl_int {a : List Mv} {h : Mh} {Q : Mv → Mh → Prop} : fIsi [(Mv.vl a), .ty "int"] h Q = Q (.bl false) h := fIsi_of (t := "list") rfl (fun _ z => z) (by decide +kernel)
theorem isi_vl_bool {a : List Mv} {h : Mh} {Q : Mv → Mh → Prop} : fIsi [(Mv.vl a), .ty "bool"] h Q = Q (.bl false) h := fIsi_of (t := "list") rfl (fun _ z => z) (by decide +kernel)
theorem isi_vl_str {a : List Mv} {h : Mh} {Q : Mv → Mh → Prop} : fIsi [(Mv.vl a), .ty "str"] h Q = Q (.bl false) h := fIsi_of (t := "list") rfl (fun _ z => z) (by decide +kernel)
theorem isi_vl_tuple {a : List Mv} {h : Mh} {Q : Mv → Mh → Prop} : fIsi [(Mv.vl a), .ty "tuple"] h Q = Q (.bl false) h := fIsi_of (t := "list") rfl (fun _ z => z) (by decide +kernel)
theorem isi_vl_list {a : List Mv} {h : Mh} {Q : Mv → Mh → Prop} : fIsi [(Mv.vl a), .ty "list"] h Q = Q (.bl true) h := fIsi_of (t := "list") rfl (fun _ z => z) (by decide +kernel)
theorem isi_vl_dict {a : List Mv} {h : Mh} {Q : Mv → Mh → Prop} : fIsi [(Mv.vl a), .ty "dict"] h Q = Q (.bl false) h := fIsi_of (t := "list") rfl (fun _ z => z) (by decide +kernel)
theorem isi_vd_int {a : List Key} {b : List Mv} {h : Mh} {Q : Mv → Mh → Prop} : fIsi [(Mv.vd a b), .ty "int"] h Q = Q (.bl false) h := fIsi_of (t := "dict") rfl (fun _ z => z) (by decide +kernel)
theorem isi_vd_bool {a : List Key} {b : List Mv} {h : Mh} {Q : Mv → Mh → Prop} : fIsi [(Mv.vd a b), .ty "bool"] h Q = Q (.bl false) h := fIsi_of (t := "dict") rfl (fun _ z => z) (by decide +kernel)
theorem isi_vd_str {a : List Key} {b : List Mv} {h : Mh} {Q : Mv → Mh → Prop} : fIsi [(Mv.vd a b), .ty "str"] h Q = Q (.bl false) h := fIsi_of (t := "dict") rfl (fun _ z => z) (by decide +kernel)
theorem isi_vd_tuple {a : List Key} {b : List Mv} {h : Mh} {Q : Mv → Mh → Prop} : fIsi [(Mv.vd a b), .ty "tuple"] h Q = Q (.bl false) h := fIsi_of (t := "dict") rfl (fun _ z => z) (by decide +kernel)
theorem isi_vd_list {a : List Key} {b : List Mv} {h : Mh} {Q : Mv → Mh → Prop} : fIsi [(Mv.vd a b), .ty "list"] h Q = Q (.bl false) h := fIsi_of (t := "dict") rfl (fun _ z => z) (by decide +kernel)
theorem isi_vd_dict {a : List Key} {b : List Mv} {h : Mh} {Q : Mv → Mh → Prop} : fIsi [(Mv.vd a b), .ty "dict"] h Q = Q (.bl true) h := fIsi_of (t := "dict") rfl (fun _ z => z) (by decide +kernel)
theorem isi_ref_int {a : Addr} {xs : List Mv} {h : Mh} {Q : Mv → Mh → Prop} (e : h a = some (.lst xs)) : fIsi [.ref a, .ty "int"] h Q = Q (.bl false) h := fIsi_of (t := "list") (.inl ⟨rfl, xs, e⟩) (fun _ z => z.elim (fun y => y.1) fun ⟨_, ks, ys, y⟩ => (by rw [e] at y; cases y)) (by decide +kernel)
theorem isi_ref_bool {a : Addr} {xs : List Mv} {h : Mh} {Q : Mv → Mh → Prop} (e : h a = some (.lst xs)) : fIsi [.ref a, .ty "bool"] h Q = Q (.bl false) h := fIsi_of (t := "list") (.inl ⟨rfl, xs, e⟩) (fun _ z => z.elim (fun y => y.1) fun ⟨_, ks, ys, y⟩ => (by rw [e] at y; cases y)) (by decide +kernel)
theorem isi_ref_str {a : Addr} {xs : List Mv} {h : Mh} {Q : Mv → Mh → Prop} (e : h a = some (.lst xs)) : fIsi [.ref a, .ty "str"] h Q = Q (.bl false) h := fIsi_of (t := "list") (.inl ⟨rfl, xs, e⟩) (fun _ z => z.elim (fun y => y.1) fun ⟨_, ks, ys, y⟩ => (by rw [e] at y; cases y)) (by decide +kernel)
theorem isi_ref_tuple {a : Addr} {xs : List Mv} {h : Mh} {Q : Mv → Mh → Prop} (e : h a = some (.lst xs)) : fIsi [.ref a, .ty "tuple"] h Q = Q (.bl false) h := fIsi_of (t := "list") (.inl ⟨rfl, xs, e⟩) (fun _ z => z.elim (fun y => y.1) fun ⟨_, ks, ys, y⟩ => (by rw [e] at y; cases y)) (by decide +kernel)
theorem isi_ref_list {a : Addr} {xs : List Mv} {h : Mh} {Q : Mv → Mh → Prop} (e : h a = some (.lst xs)) : fIsi [.ref a, .ty "list"] h Q = Q (.bl true) h := fIsi_of (t := "list") (.inl ⟨rfl, xs, e⟩) (fun _ z => z.elim (fun y => y.1) fun ⟨_, ks, ys, y⟩ => (by rw [e] at y; cases y)) (by decide +kernel)
theorem isi_ref_dict {a : Addr} {xs : List Mv} {h : Mh} {Q : Mv → Mh → Prop} (e : h a = some (.lst xs)) : fIsi [.ref a, .ty "dict"] h Q = Q (.bl false) h := fIsi_of (t := "list") (.inl ⟨rfl, xs, e⟩) (fun _ z => z.elim (fun y => y.1) fun ⟨_, ks, ys, y⟩ => (by rw [e] at y; cases y)) (by decide +kernel)
end Rv

namespace L_k02
open PySem L2 Rv
def gK_on_ring : List Mv → List Mv → List Mv := fun us ws => us ++ ws
def gK_steps_ring : List Mv → List Mv → List Mv := fun us ws => us ++ ws
/-! ### the draws -/
theorem hset_hset {h : Mh} {a : Addr} {o u : Mo} : hset (hset h a o) a u = hset h a u := by
  funext b
  unfold hset
  split <;> rfl
local macro_rules | `(tactic| walk_at "w") => `(tactic| simp only [wVar, wC, wB, wU, wTst, wChn, wAndT, wOrT, wNotT, wAndV, wOrV, wNotV, wIf, wNil, wCons, wTup, wLst, wSeq, wNext, wBrk, wCnt, wExp, wRet, wRetN, wIfS, wAsg, wPut, wAug, wItems, wRng1, wRng2, wFor, wLc, wYes, wCB, wCall, wCallK, wPar, wPar3, wCatL, wFz, wNew,
  fII, fI0, fAddI, fSub, fMulI, fDiv, fMod, fPow, fLtI, fLeI, fGtI, fGeI, fNeg, fEqG, fIsN, fIx, fLen, f1I, fAbs, f2I, fMin2, fMax2, fInt, List.set_cons_zero, List.set_cons_succ, getE, setE, asg, asgs, wipeE, wipeE.go, List.cons_append, List.nil_append, List.append_nil, List.length_cons, List.length_nil, and_true, true_and, forall_const, implies_true, hset_same, hset_hset, id, ↓reduceIte, decide_eq_true_eq, decide_eq_false_iff_not, Bool.not_eq_true', Bool.not_eq_false', Nat.reduceAdd, Nat.reduceLeDiff, Int.reduceNeg, Int.reduceToNat, Int.reducePow, Int.reduceMul, Int.reduceAdd, Int.reduceSub, Int.reduceLE, Int.reduceLT, Int.reduceMod, Int.reduceDiv, Int.reduceGT, Int.reduceGE, gt_iff_lt, ge_iff_le, Bool.not_true, Bool.not_false, Bool.true_eq_false, Bool.false_eq_true, false_implies, reduceCtorEq, isi_non_int, isi_non_bool, isi_non_str, isi_non_tuple, isi_non_list, isi_non_dict, isi_bl_int, isi_bl_bool, isi_bl_str, isi_bl_tuple, isi_bl_list, isi_bl_dict, isi_int_int, isi_int_bool, isi_int_str, isi_int_tuple, isi_int_list, isi_int_dict, isi_str_int, isi_str_bool, isi_str_str, isi_str_tuple, isi_str_list, isi_str_dict, isi_tup_int, isi_tup_bool, isi_tup_str, isi_tup_tuple, isi_tup_list, isi_tup_dict, isi_vl_int, isi_vl_bool, isi_vl_str, isi_vl_tuple, isi_vl_list, isi_vl_dict, isi_vd_int, isi_vd_bool, isi_vd_str, isi_vd_tuple, isi_vd_list, isi_vd_dict])
theorem sm_of {m : Int} (h0 : 0 ≤ m) (h1 : m < 2 ^ 64) : Sm m := ⟨by omega, h1⟩
theorem big_of {m : Int} (h0 : 0 ≤ m) (h1 : m < 2 ^ 64) : Big m := (sm_of h0 h1).big
theorem at0 {x : Mv} {xs : List Mv} : L2.atI (x :: xs) 0 = some x := by
  unfold L2.atI ixN
  rw [if_pos (by decide), if_pos (by simp only [List.length_cons]; omega)]
  rfl
theorem at1 {x y : Mv} {xs : List Mv} : L2.atI (x :: y :: xs) 1 = some y := by
  unfold L2.atI ixN
  rw [if_pos (by decide), if_pos (by simp only [List.length_cons]; omega)]
  rfl
theorem at2 {x y z : Mv} {xs : List Mv} : L2.atI (x :: y :: z :: xs) 2 = some z := by
  unfold L2.atI ixN
  rw [if_pos (by decide), if_pos (by simp only [List.length_cons]; omega)]
  rfl
theorem at_nat {xs : List Mv} {i : Int} (h0 : 0 ≤ i) (h1 : i < xs.length) : ∃ x, L2.atI xs i = some x ∧ x ∈ xs ∧ xs[i.toNat]? = some x := by
  have hl : i.toNat < xs.length := by omega
  refine ⟨xs[i.toNat], ?_, List.getElem_mem hl, List.getElem?_eq_getElem hl⟩
  unfold L2.atI ixN
  rw [if_pos h0, if_pos h1]
  exact List.getElem?_eq_getElem hl
/-- the law's hand: what is left of the digits, what is mixed, how many draws, c at most -/
def HandO (o : Mo) (c : Int) : Prop := ∃ a b k : Int, o = .lst [.int a, .int b, .int k] ∧ 0 ≤ b ∧ b < 2 ^ 62 ∧ 0 ≤ k ∧ k ≤ c
theorem HandO.mono {o : Mo} {c c' : Int} (h : HandO o c) (l : c ≤ c') : HandO o c' := by
  obtain ⟨a, b, k, e, h1, h2, h3, h4⟩ := h
  exact ⟨a, b, k, e, h1, h2, h3, by omega⟩
theorem at_ints {ns : List Int} {k : Int} (h0 : 0 ≤ k) (h1 : k < ((ns.map Mv.int).length : Int)) : ∃ v, L2.atI (ns.map Mv.int) k = some (.int v) := by
  obtain ⟨x, e, m, _⟩ := at_nat h0 h1
  obtain ⟨v, _, rfl⟩ := List.mem_map.mp m
  exact ⟨v, e⟩
theorem sm_ite {c : Prop} [Decidable c] {a b : Int} (ha : Sm a) (hb : Sm b) : Sm (if c then a else b) := by
  split <;> assumption
theorem take_fin {ps : List Int} {z : Int} (h : z = 0 ∨ z = 1 ∨ z = 2 ∨ z = 3 ∨ z = 4 ∨ z = 5 ∨ z = 6 ∨ z = 7) (hl : ps.length = 8) (hp : ∀ p ∈ ps, 0 < p ∧ p < 2 ^ 31) : ∃ p, L2.atI (ps.map Mv.int) z = some (.int p) ∧ 0 < p ∧ p < 2 ^ 31 := by
  have h0 : 0 ≤ z := by omega
  have h1 : z < ((ps.map Mv.int).length : Int) := by rw [List.length_map, hl]; omega
  obtain ⟨x, e, m, _⟩ := at_nat h0 h1
  obtain ⟨v, hv, rfl⟩ := List.mem_map.mp m
  exact ⟨v, e, hp v hv⟩
theorem mul_l {i j : Int} (h0 : -(2 ^ 64) < i) (h1 : i < 2 ^ 64) : MulOk i j := .inl ⟨h0, h1⟩
theorem mul_r {i j : Int} (h0 : -(2 ^ 64) < j) (h1 : j < 2 ^ 64) : MulOk i j := .inr (.inl ⟨h0, h1⟩)
theorem mul_i {i : Int} {c : Prop} [Decidable c] : MulOk i (if c then 1 else 0) := .inr (.inl (sm_ite (sm_of (by decide) (by decide)) (sm_of (by decide) (by decide))))
theorem mul_b {i j : Int} (h0 : i.natAbs < 2 ^ 4000) (h1 : j.natAbs < 2 ^ 4000) : MulOk i j := .inr (.inr ⟨h0, h1⟩)
local macro_rules | `(tactic| walk_at "len") => `(tactic| (first | omega | (simp only [List.length_cons, List.length_nil, List.length_append, List.length_map]; done) | (simp only [List.length_cons, List.length_nil, List.length_append, List.length_map]; omega)))
local macro_rules | `(tactic| walk_at "side") => `(tactic| (first
  | omega
  | assumption
  | (apply sm_of <;> omega)
  | (apply big_of <;> omega)
  | exact mul_i
  | (apply mul_l <;> omega)
  | (apply mul_r <;> omega)
  | (apply mul_b <;> decide +kernel)
  | (decide +kernel; done)))
theorem loop_step {t : Tgt} {b : WS} {D : ME} {x : Mv} {xs : List Mv} {e e1 : Rv.Env} {h : Mh} (ha : asg t x e = some e1) (k : ∀ L : Rv.Env → Mh → Prop, L = wLoop t b D xs → b { D with nx := L, ct := L, bk := D.nx } e1 h) : wLoop t b D (x :: xs) e h := by
  unfold wLoop
  rw [ha]
  exact k _ rfl
theorem lc_step {t : Tgt} {w : WE} {e e1 : Rv.Env} {Q : List Mv → Mh → Prop} {x : Mv} {xs : List Mv} {h : Mh} {acc : List Mv} (ha : asg t x e = some e1) (k : ∀ L : List Mv → Mh → List Mv → Prop, L = wLcGo t wYes w e Q → w e1 h fun m h2 => L xs h2 (acc ++ [m])) : wLcGo t wYes w e Q (x :: xs) h acc := by
  have z := k _ rfl
  unfold wLcGo
  rw [ha]
  exact ⟨fun _ => z, fun q => by cases q⟩
theorem lc_stepT {t : Tgt} {tt : WT} {w : WE} {e e1 : Rv.Env} {Q : List Mv → Mh → Prop} {x : Mv} {xs : List Mv} {h : Mh} {acc : List Mv} (ha : asg t x e = some e1) (k : ∀ L : List Mv → Mh → List Mv → Prop, L = wLcGo t tt w e Q → tt e1 h fun c h1 => (c = true → w e1 h1 fun m h2 => L xs h2 (acc ++ [m])) ∧ (c = false → L xs h1 acc)) : wLcGo t tt w e Q (x :: xs) h acc := by
  have z := k _ rfl
  unfold wLcGo
  rw [ha]
  exact z
theorem loop_nil {t : Tgt} {b : WS} {D : ME} {e : Rv.Env} {h : Mh} (k : D.nx e h) : wLoop t b D [] e h := k
theorem lc_nil {t : Tgt} {tt : WT} {w : WE} {e : Rv.Env} {Q : List Mv → Mh → Prop} {h : Mh} {acc : List Mv} (k : Q acc h) : wLcGo t tt w e Q [] h acc := k
theorem rng_items {lo : Int} {n : Nat} {x : Mv} (h : x ∈ rngM lo n) : ∃ k : Int, x = .int k ∧ lo ≤ k ∧ k < lo + n := by
  unfold rngM at h
  obtain ⟨i, hi, rfl⟩ := List.mem_map.mp h
  have := List.mem_range.mp hi
  exact ⟨_, rfl, by omega, by omega⟩
theorem fAll_use {n : Nat} {h : Mh} {Q : Mv → Mh → Prop} (q : Q (.bl true) h) : fAll [.vl ((List.replicate n true).map Mv.bl)] h Q := ⟨_, rfl, by
  show Q (.bl ((List.replicate n true).all id)) h
  rw [show (List.replicate n true).all id = true by simp]
  exact q⟩
def S_law_hand : Sig := fun ms h Q => ∃ (ns : List Int) (k : Int), ms = [.sc (ns.map Mv.int), .int k] ∧ 0 ≤ k ∧ k ≤ 1000 ∧ ∀ n o, h n = none → HandO o 0 → Q (.ref n) (hset h n o)
theorem len_law_hand (ms : List Mv) (h : Mh) (Q : Mv → Mh → Prop) (q : S_law_hand ms h Q) : ms.length = 2 := by
  obtain ⟨ns, k, rfl, _⟩ := q; rfl
def w_law_hand : WS :=
  (wSeq (wAsg (.nm 2) (wIf (wTst (wB fLtI (wVar 1) (wCB fLen (wCons (wVar 0) wNil)))) (wB fIx (wVar 0) (wVar 1)) (wC (.int 0)))) (wSeq (wAsg (.nm 3) (wB fMulI (wB fMod (wCB fAbs (wCons (wVar 2) wNil)) (wB fMulI (wB fPow (wC (.int 10)) (wC (.int 45))) (wB fPow (wC (.int 10)) (wC (.int 45))))) (wCB fInt (wCons (wB fGeI (wCB fAbs (wCons (wVar 2) wNil)) (wB fPow (wC (.int 10)) (wC (.int 18)))) wNil)))) (wRet (wNew (wLst (wCons (wVar 3) (wCons (wB fAddI (wB fAddI (wB fMod (wVar 2) (wC (.int 2305843009213693951))) (wB fMulI (wC (.int 104729)) (wVar 1))) (wC (.int 7))) (wCons (wC (.int 0)) wNil))))))))
theorem P_law_hand (ms : List Mv) (h : Mh) (Q : Mv → Mh → Prop) (q : S_law_hand ms h Q) : w_law_hand ⟨fun _ h' => Q .non h', Q, fun _ _ => False, fun _ _ => False⟩ (startE ["_law_script", "_law_k", "_law_cell", "_law_great"].length ms) h := by
  obtain ⟨ns, k, rfl, h0, h1, q⟩ := q
  show w_law_hand _ [some (.sc (ns.map Mv.int)), some (.int k), none, none] h
  unfold w_law_hand
  walk_at "w"
  refine ⟨fun hk => ?_, fun _ => ?_⟩
  · obtain ⟨v, e⟩ := at_ints h0 hk
    refine ⟨_, e, ?_⟩
    and_intros
    all_goals first | exact fun p hp => q p _ hp ⟨_, _, _, rfl, by omega, by omega, by omega, by omega⟩ | walk_at "side"
  · and_intros
    all_goals first | exact fun p hp => q p _ hp ⟨_, _, _, rfl, by omega, by omega, by omega, by omega⟩ | walk_at "side"
def S_law_take : Sig := fun ms h Q => ∃ (n : Addr) (m c : Int) (o : Mo), ms = [.ref n, .int m] ∧ h n = some o ∧ HandO o c ∧ c ≤ 1000000000 ∧ 0 < m ∧ m < 2 ^ 64 ∧ ∀ d o', 0 ≤ d → d < m → HandO o' (c + 1) → Q (.int d) (hset h n o')
theorem len_law_take (ms : List Mv) (h : Mh) (Q : Mv → Mh → Prop) (q : S_law_take ms h Q) : ms.length = 2 := by
  obtain ⟨_, _, _, _, rfl, _⟩ := q; rfl
def w_law_take : WS :=
  (wSeq (wIfS (wTst (wB fGtI (wB fIx (wVar 0) (wC (.int 0))) (wC (.int 0)))) (wSeq (wAsg (.nm 2) (wB fMod (wB fIx (wVar 0) (wC (.int 0))) (wVar 1))) (wSeq (wPut (wB fDiv (wB fIx (wVar 0) (wC (.int 0))) (wVar 1)) (wVar 0) (wC (.int 0))) (wRet (wVar 2)))) wNext) (wSeq (wPut (wB fAddI (wB fIx (wVar 0) (wC (.int 2))) (wC (.int 1))) (wVar 0) (wC (.int 2))) (wSeq (wAsg (.nm 3) (wFz (wLst (wCons (wC (.int 2147483647)) (wCons (wC (.int 2147483629)) (wCons (wC (.int 2147483587)) (wCons (wC (.int 2147483579)) (wCons (wC (.int 2147483563)) (wCons (wC (.int 2147483549)) (wCons (wC (.int 2147483543)) (wCons (wC (.int 2147483497)) wNil))))))))))) (wSeq (wAsg (.nm 4) (wB fIx (wVar 3) (wB fMod (wB fIx (wVar 0) (wC (.int 2))) (wC (.int 8))))) (wSeq (wAsg (.nm 5) (wB fMod (wB fPow (wB fAddI (wB fIx (wVar 0) (wC (.int 1))) (wB fMulI (wC (.int 7919)) (wB fIx (wVar 0) (wC (.int 2))))) (wC (.int 5))) (wVar 4))) (wRet (wB fMod (wB fDiv (wB fMod (wB fMulI (wVar 5) (wB fAddI (wB fMod (wVar 5) (wC (.int 1009))) (wB fIx (wVar 0) (wC (.int 2))))) (wVar 4)) (wC (.int 7))) (wVar 1))))))))
theorem P_law_take (ms : List Mv) (h : Mh) (Q : Mv → Mh → Prop) (q : S_law_take ms h Q) : w_law_take ⟨fun _ h' => Q .non h', Q, fun _ _ => False, fun _ _ => False⟩ (startE ["_law_hand_here", "_law_many", "_law_digit", "_law_primes", "_law_prime", "_law_drawn"].length ms) h := by
  obtain ⟨n, m, c, o, rfl, hn, ⟨a, b, k, rfl, hb0, hb1, hk0, hk1⟩, hc, hm0, hm1, q⟩ := q
  show w_law_take _ [some (.ref n), some (.int m), none, none, none, none] h
  unfold w_law_take
  walk_at "w"
  have hmB : Big m := big_of (by omega) hm1
  refine ⟨_, _, hn, at0, fun ha => ?_, fun ha => ?_⟩
  · refine ⟨_, _, hn, at0, hm0, _, _, hn, at0, ⟨hm0, hmB⟩, _, 0, hn, rfl, ?_⟩
    exact q _ _ (Int.emod_nonneg _ (by omega)) (Int.emod_lt_of_pos _ hm0) ⟨_, _, _, rfl, hb0, hb1, hk0, by omega⟩
  · refine ⟨_, _, hn, at2, _, 2, hn, rfl, _, _, rfl, at2, ?_⟩
    obtain ⟨p, hp, hp0, hp1⟩ := take_fin (ps := [2147483647, 2147483629, 2147483587, 2147483579, 2147483563, 2147483549, 2147483543, 2147483497]) (z := (k + 1) % 8) (by omega) rfl (by decide)
    have hd0 : 0 ≤ (b + 7919 * (k + 1)) ^ 5 % p := Int.emod_nonneg _ (by omega)
    have hd1 : (b + 7919 * (k + 1)) ^ 5 % p < p := Int.emod_lt_of_pos _ hp0
    walk_at "w"
    refine ⟨_, hp, _, _, rfl, at1, _, _, rfl, at2, ?_⟩
    walk_at "w"
    refine ⟨by walk_at "side", by walk_at "side", hp0, _, _, rfl, at2, ?_⟩
    walk_at "w"
    refine ⟨by walk_at "side", hp0, big_of (by decide) (by decide), hm0, ?_⟩
    exact q _ _ (Int.emod_nonneg _ (by omega)) (Int.emod_lt_of_pos _ hm0) ⟨_, _, _, rfl, hb0, hb1, by omega, by omega⟩
theorem take_use {h : Mh} {Q : Mv → Mh → Prop} {n : Addr} {m c : Int} {o : Mo} (hn : h n = some o) (ho : HandO o c) (hc : c ≤ 1000000000) (h0 : 0 < m) (h1 : m < 2 ^ 64) (k : ∀ d o', 0 ≤ d → d < m → HandO o' (c + 1) → Q (.int d) (hset h n o')) :
    S_law_take [.ref n, .int m] h Q := ⟨n, m, c, o, rfl, hn, ho, hc, h0, h1, k⟩
def S_law_of : Sig := fun ms h Q => ∃ (n : Addr) (xs : List Mv) (c : Int) (o : Mo), ms = [.ref n, .vl xs] ∧ h n = some o ∧ HandO o c ∧ c ≤ 1000000000 ∧ 0 < xs.length ∧ xs.length ≤ 100000 ∧ ∀ x o', x ∈ xs → HandO o' (c + 1) → Q x (hset h n o')
theorem len_law_of (ms : List Mv) (h : Mh) (Q : Mv → Mh → Prop) (q : S_law_of ms h Q) : ms.length = 2 := by
  obtain ⟨_, _, _, _, rfl, _⟩ := q; rfl
def w_law_of : WS :=
  (wRet (wB fIx (wVar 1) (wCall S_law_take [] (wCons (wVar 0) (wCons (wCB fLen (wCons (wVar 1) wNil)) wNil)))))
theorem P_law_of (ms : List Mv) (h : Mh) (Q : Mv → Mh → Prop) (q : S_law_of ms h Q) : w_law_of ⟨fun _ h' => Q .non h', Q, fun _ _ => False, fun _ _ => False⟩ (startE ["_law_hand_here", "_law_some"].length ms) h := by
  obtain ⟨n, xs, c, o, rfl, hn, ho, hc, hl0, hl1, q⟩ := q
  show w_law_of _ [some (.ref n), some (.vl xs)] h
  unfold w_law_of
  walk_at "w"
  refine take_use hn ho hc (by omega) (by omega) fun d o' h0 h1 ho' => ?_
  obtain ⟨x, e, m, _⟩ := at_nat h0 h1
  exact ⟨_, e, q _ _ m ho'⟩
theorem of_use {h : Mh} {Q : Mv → Mh → Prop} {n : Addr} {c : Int} {xs : List Mv} {o : Mo} (hn : h n = some o) (ho : HandO o c) (hc : c ≤ 1000000000) (h0 : 0 < xs.length) (h1 : xs.length ≤ 100000) (k : ∀ x o', x ∈ xs → HandO o' (c + 1) → Q x (hset h n o')) :
    S_law_of [.ref n, .vl xs] h Q := ⟨n, xs, c, o, rfl, hn, ho, hc, h0, h1, k⟩
theorem hand_use {h : Mh} {Q : Mv → Mh → Prop} {ns : List Int} {k : Int} (h0 : 0 ≤ k) (h1 : k ≤ 1000) (q : ∀ n o, h n = none → HandO o 0 → Q (.ref n) (hset h n o)) : S_law_hand [.sc (ns.map Mv.int), .int k] h Q := ⟨ns, k, rfl, h0, h1, q⟩
def S_on : Sig := fun ms h Q => ∃ a b r : Int, ms = [.int a, .int b, .int r] ∧ 0 < r ∧ Q (.int ((a + b) % r)) h
theorem len_on (ms : List Mv) (h : Mh) (Q : Mv → Mh → Prop) (q : S_on ms h Q) : ms.length = 3 := by
  obtain ⟨_, _, _, rfl, _⟩ := q; rfl
def w_on : WS :=
  (wRet (wB fMod (wB fAddI (wVar 0) (wVar 1)) (wVar 2)))
theorem P_on (ms : List Mv) (h : Mh) (Q : Mv → Mh → Prop) (q : S_on ms h Q) : w_on ⟨fun _ h' => Q .non h', Q, fun _ _ => False, fun _ _ => False⟩ (startE ["number", "many", "ring"].length ms) h := by
  obtain ⟨a, b, r, rfl, hr, q⟩ := q
  show w_on _ [some (.int a), some (.int b), some (.int r)] h
  unfold w_on
  walk_at "w"
  exact ⟨hr, q⟩
def S_steps : Sig := fun ms h Q => ∃ a b r : Int, ms = [.int a, .int b, .int r] ∧ 0 < r ∧ Q (.int ((b - a) % r)) h
theorem len_steps (ms : List Mv) (h : Mh) (Q : Mv → Mh → Prop) (q : S_steps ms h Q) : ms.length = 3 := by
  obtain ⟨_, _, _, rfl, _⟩ := q; rfl
def w_steps : WS :=
  (wRet (wB fMod (wB fSub (wVar 1) (wVar 0)) (wVar 2)))
theorem P_steps (ms : List Mv) (h : Mh) (Q : Mv → Mh → Prop) (q : S_steps ms h Q) : w_steps ⟨fun _ h' => Q .non h', Q, fun _ _ => False, fun _ _ => False⟩ (startE ["one", "other", "ring"].length ms) h := by
  obtain ⟨a, b, r, rfl, hr, q⟩ := q
  show w_steps _ [some (.int a), some (.int b), some (.int r)] h
  unfold w_steps
  walk_at "w"
  exact ⟨hr, q⟩
/-- a ring -/
def RingOk (r : Int) : Prop := 8 ≤ r ∧ r ≤ 1048576 ∧ r % 2 = 0
def S_law_size : Sig := fun ms h Q => ∃ (n : Addr) (c : Int) (o : Mo), ms = [.ref n] ∧ h n = some o ∧ HandO o c ∧ c ≤ 900000000 ∧ ∀ r o', RingOk r → HandO o' (c + 3) → Q (.int r) (hset h n o')
theorem len_law_size (ms : List Mv) (h : Mh) (Q : Mv → Mh → Prop) (q : S_law_size ms h Q) : ms.length = 1 := by
  obtain ⟨_, _, _, rfl, _⟩ := q; rfl
def w_law_size : WS :=
  (wSeq (wAsg (.nm 1) (wFz (wLst (wCons (wC (.int 8)) (wCons (wC (.int 8)) (wCons (wC (.int 10)) (wCons (wC (.int 12)) (wCons (wC (.int 16)) (wCons (wC (.int 64)) (wCons (wB fMulI (wC (.int 2)) (wB fAddI (wC (.int 4)) (wCall S_law_take [] (wCons (wVar 0) (wCons (wC (.int 40)) wNil))))) (wCons (wB fMulI (wC (.int 2)) (wB fAddI (wC (.int 4)) (wCall S_law_take [] (wCons (wVar 0) (wCons (wB fSub (wB fPow (wC (.int 2)) (wC (.int 19))) (wC (.int 3))) wNil))))) wNil))))))))))) (wRet (wCall S_law_of [] (wCons (wVar 0) (wCons (wFz (wCatL (wVar 1) (wFz (wLst (wCons (wB fPow (wC (.int 2)) (wC (.int 20))) (wCons (wB fSub (wB fPow (wC (.int 2)) (wC (.int 20))) (wC (.int 2))) wNil)))))) wNil)))))
theorem P_law_size (ms : List Mv) (h : Mh) (Q : Mv → Mh → Prop) (q : S_law_size ms h Q) : w_law_size ⟨fun _ h' => Q .non h', Q, fun _ _ => False, fun _ _ => False⟩ (startE ["_law_hand_here", "_law_some"].length ms) h := by
  obtain ⟨n, c, o, rfl, hn, ho, hc, q⟩ := q
  show w_law_size _ [some (.ref n), none] h
  unfold w_law_size
  walk_at "w"
  refine take_use hn ho (by omega) (by omega) (by omega) fun d o1 h0 h1 ho1 => ?_
  walk_at "w"
  refine ⟨by walk_at "side", sm_of (by decide) (by decide), ?_⟩
  refine take_use hset_same ho1 (by omega) (by omega) (by omega) fun d2 o2 h2 h3 ho2 => ?_
  walk_at "w"
  refine ⟨by walk_at "side", sm_of (by decide) (by decide), sm_of (by decide) (by decide), _, _, rfl, rfl, by walk_at "len", ?_⟩
  refine of_use hset_same ho2 (by omega) (by walk_at "len") (by walk_at "len") fun x o3 hx ho3 => ?_
  simp only [hset_hset]
  have ho3 := ho3.mono (c' := c + 3) (by omega)
  simp only [List.cons_append, List.nil_append, List.mem_cons, List.not_mem_nil, or_false] at hx
  rcases hx with rfl | rfl | rfl | rfl | rfl | rfl | rfl | rfl | rfl | rfl <;> exact q _ _ (by unfold RingOk; omega) ho3
theorem size_use {h : Mh} {Q : Mv → Mh → Prop} {n : Addr} {c : Int} {o : Mo} (hn : h n = some o) (ho : HandO o c) (hc : c ≤ 900000000) (k : ∀ r o', RingOk r → HandO o' (c + 3) → Q (.int r) (hset h n o')) : S_law_size [.ref n] h Q := ⟨n, c, o, rfl, hn, ho, hc, k⟩
def goneM (a m r : Int) : Int := let z := m - m / r * r; if a + z < r then a + z else a + z - r
def S_law_gone : Sig := fun ms h Q => ∃ a m r : Int, ms = [.int a, .int m, .int r] ∧ RingOk r ∧ Q (.int (goneM a m r)) h
theorem len_law_gone (ms : List Mv) (h : Mh) (Q : Mv → Mh → Prop) (q : S_law_gone ms h Q) : ms.length = 3 := by
  obtain ⟨_, _, _, rfl, _⟩ := q; rfl
def w_law_gone : WS :=
  (wSeq (wAsg (.nm 3) (wB fSub (wVar 1) (wB fMulI (wB fDiv (wVar 1) (wVar 2)) (wVar 2)))) (wRet (wIf (wTst (wB fLtI (wB fAddI (wVar 0) (wVar 3)) (wVar 2))) (wB fAddI (wVar 0) (wVar 3)) (wB fSub (wB fAddI (wVar 0) (wVar 3)) (wVar 2)))))
theorem P_law_gone (ms : List Mv) (h : Mh) (Q : Mv → Mh → Prop) (q : S_law_gone ms h Q) : w_law_gone ⟨fun _ h' => Q .non h', Q, fun _ _ => False, fun _ _ => False⟩ (startE ["_law_number_here", "_law_many", "_law_size_here", "_law_rest"].length ms) h := by
  obtain ⟨a, m, r, rfl, ⟨r0, r1, r2⟩, q⟩ := q
  show w_law_gone _ [some (.int a), some (.int m), some (.int r), none] h
  unfold w_law_gone
  walk_at "w"
  unfold goneM at q
  refine ⟨⟨by omega, big_of (by omega) (by omega)⟩, by walk_at "side", fun hc => ?_, fun hc => ?_⟩
  · simp only [if_pos hc] at q
    exact q
  · simp only [if_neg hc] at q
    exact q
def wayM (a b r : Int) : Int := if a ≤ b then b - a else b - a + r
def S_law_way : Sig := fun ms h Q => ∃ a b r : Int, ms = [.int a, .int b, .int r] ∧ Q (.int (wayM a b r)) h
theorem len_law_way (ms : List Mv) (h : Mh) (Q : Mv → Mh → Prop) (q : S_law_way ms h Q) : ms.length = 3 := by
  obtain ⟨_, _, _, rfl, _⟩ := q; rfl
def w_law_way : WS :=
  (wRet (wIf (wTst (wB fGeI (wVar 1) (wVar 0))) (wB fSub (wVar 1) (wVar 0)) (wB fAddI (wB fSub (wVar 1) (wVar 0)) (wVar 2))))
theorem P_law_way (ms : List Mv) (h : Mh) (Q : Mv → Mh → Prop) (q : S_law_way ms h Q) : w_law_way ⟨fun _ h' => Q .non h', Q, fun _ _ => False, fun _ _ => False⟩ (startE ["_law_one", "_law_other", "_law_size_here"].length ms) h := by
  obtain ⟨a, b, r, rfl, q⟩ := q
  show w_law_way _ [some (.int a), some (.int b), some (.int r)] h
  unfold w_law_way
  walk_at "w"
  unfold wayM at q
  refine ⟨fun hc => ?_, fun hc => ?_⟩
  · rw [if_pos hc] at q
    exact q
  · rw [if_neg hc] at q
    exact q
def S_law_number : Sig := fun ms h Q => ∃ (n : Addr) (c r : Int) (o : Mo), ms = [.ref n, .int r] ∧ RingOk r ∧ h n = some o ∧ HandO o c ∧ c ≤ 900000000 ∧ ∀ d o', 0 ≤ d → d < r → HandO o' (c + 3) → Q (.int d) (hset h n o')
theorem len_law_number (ms : List Mv) (h : Mh) (Q : Mv → Mh → Prop) (q : S_law_number ms h Q) : ms.length = 2 := by
  obtain ⟨_, _, _, _, rfl, _⟩ := q; rfl
def w_law_number : WS :=
  (wRet (wCall S_law_of [] (wCons (wVar 0) (wCons (wFz (wLst (wCons (wC (.int 0)) (wCons (wB fSub (wVar 1) (wC (.int 1))) (wCons (wB fDiv (wVar 1) (wC (.int 2))) (wCons (wCall S_law_take [] (wCons (wVar 0) (wCons (wVar 1) wNil))) (wCons (wCall S_law_take [] (wCons (wVar 0) (wCons (wVar 1) wNil))) wNil))))))) wNil))))
theorem P_law_number (ms : List Mv) (h : Mh) (Q : Mv → Mh → Prop) (q : S_law_number ms h Q) : w_law_number ⟨fun _ h' => Q .non h', Q, fun _ _ => False, fun _ _ => False⟩ (startE ["_law_hand_here", "_law_size_here"].length ms) h := by
  obtain ⟨n, c, r, o, rfl, ⟨r0, r1, r2⟩, hn, ho, hc, q⟩ := q
  show w_law_number _ [some (.ref n), some (.int r)] h
  unfold w_law_number
  walk_at "w"
  refine ⟨big_of (by decide) (by decide), ?_⟩
  refine take_use hn ho (by omega) (by omega) (by omega) fun d o1 h0 h1 ho1 => ?_
  refine take_use hset_same ho1 (by omega) (by omega) (by omega) fun d2 o2 h2 h3 ho2 => ?_
  walk_at "w"
  refine of_use hset_same ho2 (by omega) (by walk_at "len") (by walk_at "len") fun x o3 hx ho3 => ?_
  simp only [hset_hset]
  have ho3 := ho3.mono (c' := c + 3) (by omega)
  simp only [List.mem_cons, List.not_mem_nil, or_false] at hx
  rcases hx with rfl | rfl | rfl | rfl | rfl <;> exact q _ _ (by omega) (by omega) ho3
theorem number_use {h : Mh} {Q : Mv → Mh → Prop} {n : Addr} {c r : Int} {o : Mo} (hr : RingOk r) (hn : h n = some o) (ho : HandO o c) (hc : c ≤ 900000000) (k : ∀ d o', 0 ≤ d → d < r → HandO o' (c + 3) → Q (.int d) (hset h n o')) : S_law_number [.ref n, .int r] h Q := ⟨n, c, r, o, rfl, hr, hn, ho, hc, k⟩
def S_law_whole : Sig := fun ms h Q => ∃ a b : Int, ms = [.int a, .int b] ∧ Q (.bl (decide (a = b))) h
theorem len_law_whole (ms : List Mv) (h : Mh) (Q : Mv → Mh → Prop) (q : S_law_whole ms h Q) : ms.length = 2 := by
  obtain ⟨_, _, rfl, _⟩ := q; rfl
def w_law_whole : WS :=
  (wRet (wAndV (wCB fIsi (wCons (wVar 0) (wCons (wC (.ty "int")) wNil))) (wAndV (wNotV (wCB fIsi (wCons (wVar 0) (wCons (wC (.ty "bool")) wNil)))) (wB fEq (wVar 0) (wVar 1)))))
theorem P_law_whole (ms : List Mv) (h : Mh) (Q : Mv → Mh → Prop) (q : S_law_whole ms h Q) : w_law_whole ⟨fun _ h' => Q .non h', Q, fun _ _ => False, fun _ _ => False⟩ (startE ["_law_told", "_law_due"].length ms) h := by
  obtain ⟨a, b, rfl, q⟩ := q
  show w_law_whole _ [some (.int a), some (.int b)] h
  unfold w_law_whole
  walk_at "w"
  exact q
theorem eqd_ii {a b c d : Int} : EqD (.tup [.int a, .int b]) (.tup [.int c, .int d]) (a == c && (b == d && true)) := ⟨_, _, rfl, rfl, by with_unfolding_all rfl, by with_unfolding_all rfl, by with_unfolding_all rfl⟩
theorem gone_eq {a m r : Int} (h0 : 0 ≤ a) (h1 : a < r) : goneM a m r = (a + m) % r := by
  unfold goneM
  have hr : 0 < r := by omega
  have e : m - m / r * r = m % r := by
    have := Int.emod_add_mul_ediv m r
    have := Int.mul_comm r (m / r)
    omega
  have b0 := Int.emod_nonneg m (show r ≠ 0 by omega)
  have b1 := Int.emod_lt_of_pos m hr
  have key : (a + m) % r = (a + m % r) % r := by rw [Int.add_emod_emod]
  rw [e, key]
  simp only []
  split
  · exact (Int.emod_eq_of_lt (show 0 ≤ a + m % r by omega) (by omega)).symm
  · have e2 : (a + m % r) % r = (a + m % r - r) % r := (Int.sub_emod_right _ _).symm
    rw [e2]
    exact (Int.emod_eq_of_lt (show 0 ≤ a + m % r - r by omega) (by omega)).symm
theorem way_eq {a b r : Int} (h0 : 0 ≤ a) (h1 : a < r) (h2 : 0 ≤ b) (h3 : b < r) : wayM a b r = (b - a) % r := by
  unfold wayM
  split
  · rw [Int.emod_eq_of_lt (by omega) (by omega)]
  · have : (b - a) % r = (b - a + r) % r := (Int.add_emod_right _ _).symm
    rw [this, Int.emod_eq_of_lt (by omega) (by omega)]
theorem back_eq {a b r : Int} (h2 : 0 ≤ b) (h3 : b < r) : (a + (b - a) % r) % r = b := by
  rw [Int.add_emod_emod]
  have : a + (b - a) = b := by omega
  rw [this, Int.emod_eq_of_lt h2 h3]
def S_law_right : Sig := fun ms h Q => ∃ (n : Addr) (c r : Int) (o : Mo), ms = [.ref n, .int r] ∧ RingOk r ∧ h n = some o ∧ HandO o c ∧ c ≤ 800000000 ∧ ∀ o', HandO o' (c + 9) → Q (.bl true) (hset h n o')
theorem len_law_right (ms : List Mv) (h : Mh) (Q : Mv → Mh → Prop) (q : S_law_right ms h Q) : ms.length = 2 := by
  obtain ⟨_, _, _, _, rfl, _⟩ := q; rfl
def w_law_right : WS :=
  (wSeq (wPar 2 3 (wCons (wCall S_law_number [] (wCons (wVar 0) (wCons (wVar 1) wNil))) (wCons (wCall S_law_number [] (wCons (wVar 0) (wCons (wVar 1) wNil))) wNil))) (wSeq (wAsg (.nm 4) (wCall S_law_of [] (wCons (wVar 0) (wCons (wFz (wLst (wCons (wC (.int 0)) (wCons (wC (.int 1)) (wCons (wB fSub (wVar 1) (wC (.int 1))) (wCons (wVar 1) (wCons (wB fAddI (wVar 1) (wC (.int 1))) (wCons (wB fDiv (wVar 1) (wC (.int 2))) (wCons (wCall S_law_take [] (wCons (wVar 0) (wCons (wC (.int 99)) wNil))) (wCons (wCall S_law_take [] (wCons (wVar 0) (wCons (wB fPow (wC (.int 10)) (wC (.int 17))) wNil))) wNil)))))))))) wNil)))) (wSeq (wAsg (.nm 5) (wTup (wCons (wCall S_law_gone [] (wCons (wVar 2) (wCons (wVar 4) (wCons (wVar 1) wNil)))) (wCons (wCall S_law_way [] (wCons (wVar 2) (wCons (wVar 3) (wCons (wVar 1) wNil)))) wNil)))) (wSeq (wIfS (wOrT (wNotT (wTst (wCall S_law_whole [] (wCons (wCallK S_on 2 1 gK_on_ring (wCons (wVar 2) (wCons (wVar 4) wNil)) (wCons (wVar 1) wNil)) (wCons (wB fIx (wVar 5) (wC (.int 0))) wNil))))) (wNotT (wTst (wCall S_law_whole [] (wCons (wCallK S_steps 2 1 gK_steps_ring (wCons (wVar 2) (wCons (wVar 3) wNil)) (wCons (wVar 1) wNil)) (wCons (wB fIx (wVar 5) (wC (.int 1))) wNil)))))) (wRet (wC (.bl false))) wNext) (wSeq (wIfS (wAndT (wTst (wB fEq (wVar 1) (wC (.int 64)))) (wTst (wB fNe (wTup (wCons (wCall S_on [(.int 64)] (wCons (wVar 2) (wCons (wVar 4) wNil))) (wCons (wCall S_steps [(.int 64)] (wCons (wVar 2) (wCons (wVar 3) wNil))) wNil))) (wVar 5)))) (wRet (wC (.bl false))) wNext) (wRet (wB fEq (wCallK S_on 2 1 gK_on_ring (wCons (wVar 2) (wCons (wCallK S_steps 2 1 gK_steps_ring (wCons (wVar 2) (wCons (wVar 3) wNil)) (wCons (wVar 1) wNil)) wNil)) (wCons (wVar 1) wNil)) (wVar 3))))))))
theorem P_law_right (ms : List Mv) (h : Mh) (Q : Mv → Mh → Prop) (q : S_law_right ms h Q) : w_law_right ⟨fun _ h' => Q .non h', Q, fun _ _ => False, fun _ _ => False⟩ (startE ["_law_hand_here", "_law_size_here", "_law_one", "_law_other", "_law_far", "_law_due"].length ms) h := by
  obtain ⟨n, c, r, o, rfl, hr, hn, ho, hc, q⟩ := q
  show w_law_right _ [some (.ref n), some (.int r), none, none, none, none] h
  unfold w_law_right
  walk_at "w"
  refine number_use hr hn ho (by omega) fun a o1 a0 a1 ho1 => ?_
  refine number_use hr hset_same ho1 (by omega) fun b o2 b0 b1 ho2 => ?_
  walk_at "w"
  refine ⟨big_of (by decide) (by decide), ?_⟩
  refine take_use hset_same ho2 (by omega) (by omega) (by omega) fun d o3 d0 d1 ho3 => ?_
  refine ⟨sm_of (by decide) (by decide), take_use hset_same ho3 (by omega) (by omega) (by omega) fun d2 o4 d2a d2b ho4 => ?_⟩
  simp only [hset_hset]
  refine of_use hset_same ho4 (by omega) (by walk_at "len") (by walk_at "len") fun x o5 hx ho5 => ?_
  simp only [hset_hset]
  obtain ⟨m, rfl, m0⟩ : ∃ m : Int, x = .int m ∧ 0 ≤ m := by
    obtain ⟨r0, r1, r2⟩ := hr
    simp only [List.mem_cons, List.not_mem_nil, or_false] at hx
    rcases hx with rfl | rfl | rfl | rfl | rfl | rfl | rfl | rfl <;> exact ⟨_, rfl, by omega⟩
  have r0 : 0 < r := by have := hr.1; omega
  refine ⟨_, _, _, rfl, hr, _, _, _, rfl, _, _, _, rfl, r0, ?_⟩
  walk_at "w"
  refine ⟨_, at0, _, _, rfl, ?_⟩
  rw [gone_eq a0 a1, decide_eq_true rfl]
  walk_at "w"
  refine ⟨_, _, _, rfl, r0, ?_⟩
  walk_at "w"
  refine ⟨_, at1, _, _, rfl, ?_⟩
  rw [way_eq a0 a1 b0 b1, decide_eq_true rfl]
  walk_at "w"
  have fin : Q (.bl true) (hset h n o5) := q _ (ho5.mono (by omega))
  refine ⟨fun e => ?_, fun _ => ⟨_, _, _, rfl, r0, _, _, _, rfl, r0, ?_⟩⟩
  · subst e
    refine ⟨_, _, _, rfl, by decide, _, _, _, rfl, by decide, _, eqd_ii, fun z => ?_, fun _ => ⟨_, _, _, rfl, r0, _, _, _, rfl, r0, ?_⟩⟩
    · simp at z
    · rw [back_eq b0 b1]
      walk_at "w"
      exact fin
  · rw [back_eq b0 b1]
    walk_at "w"
    exact fin
theorem right_use {h : Mh} {Q : Mv → Mh → Prop} {n : Addr} {c r : Int} {o : Mo} (hr : RingOk r) (hn : h n = some o) (ho : HandO o c) (hc : c ≤ 800000000) (k : ∀ o', HandO o' (c + 9) → Q (.bl true) (hset h n o')) : S_law_right [.ref n, .int r] h Q := ⟨n, c, r, o, rfl, hr, hn, ho, hc, k⟩
def S_law : Sig := fun ms h Q => ∃ ns : List Int, ms = [.sc (ns.map Mv.int)] ∧ ns.length ≤ 63 ∧ ∀ h', Q (.bl true) h'
theorem len_law (ms : List Mv) (h : Mh) (Q : Mv → Mh → Prop) (q : S_law ms h Q) : ms.length = 1 := by
  obtain ⟨_, rfl, _⟩ := q; rfl
theorem S_law_holds (ns : List Int) (Q : Mv → Mh → Prop) (hl : ns.length ≤ 63) (k : ∀ h, Q (.bl true) h) : S_law [.sc (ns.map Mv.int)] (fun _ => none) Q := ⟨ns, rfl, hl, k⟩
def w_law_e1 : WE :=
  (wAndV (wCall S_law_right [] (wCons (wVar 2) (wCons (wVar 3) wNil))) (wCall S_law_right [] (wCons (wVar 2) (wCons (wC (.int 64)) wNil))))
def w_law_b1 : WS :=
  (wSeq (wAsg (.nm 2) (wCall S_law_hand [] (wCons (wVar 0) (wCons (wVar 1) wNil)))) (wSeq (wAsg (.nm 3) (wCall S_law_size [] (wCons (wVar 2) wNil))) (wIfS (wNotT (wTst (wCB fAll (wCons (wFz (wLc (wRng1 (wCons (wC (.int 8)) wNil)) (.nm 4) wYes w_law_e1 [4])) wNil)))) (wRet (wC (.bl false))) wNext)))
def w_law : WS :=
  (wSeq (wFor (.nm 1) (wRng1 (wCons (wB fAddI (wC (.int 1)) (wCB fMin2 (wCons (wC (.int 8)) (wCons (wCB fLen (wCons (wVar 0) wNil)) wNil)))) wNil)) w_law_b1) (wRet (wB fEq (wTup (wCons (wC (.int 64)) (wCons (wC (.int 28)) (wCons (wC (.int 20)) wNil)))) (wTup (wCons (wC (.int 64)) (wCons (wC (.int 28)) (wCons (wC (.int 20)) wNil)))))))
theorem right_lc {n : Addr} {r : Int} {E : Rv.Env} {Q : List Mv → Mh → Prop} (hr : RingOk r) (h4 : ∀ x, getE (setE E 4 x) 2 = some (.ref n)) (h5 : ∀ x, getE (setE E 4 x) 3 = some (.int r))
    (k : ∀ (m : Nat) h, Q ((List.replicate m true).map Mv.bl) h) : ∀ (xs : List Mv) (h : Mh) (o : Mo) (c : Int) (m : Nat), h n = some o → HandO o c → c + 18 * xs.length ≤ 700000000 → wLcGo (.nm 4) wYes w_law_e1 E Q xs h ((List.replicate m true).map Mv.bl)
  | [], h, o, c, m, hn, ho, hc => lc_nil (k m h)
  | x :: xs, h, o, c, m, hn, ho, hc => by
    have hc' : c + 18 * ((xs.length : Int) + 1) ≤ 700000000 := by simpa using hc
    refine lc_step rfl fun L hL => ?_
    unfold w_law_e1
    walk_at "w"
    rw [h4, h5]
    refine right_use hr hn ho (by omega) fun o1 ho1 => ?_
    walk_at "w"
    refine right_use (by unfold RingOk; decide) hset_same ho1 (by omega) fun o2 ho2 => ?_
    have z := right_lc hr h4 h5 k xs (hset h n o2) o2 (c + 9 + 9) (m + 1) hset_same ho2 (by omega)
    rw [List.replicate_succ', List.map_append] at z
    rw [hL]
    simp only [hset_hset]
    exact z
theorem law_loop {ns : List Int} {D : ME} (hD : ∀ a b c d h, D.nx [some (.sc (ns.map Mv.int)), a, b, c, d] h) : ∀ (xs : List Mv), (∀ x ∈ xs, ∃ k : Int, x = .int k ∧ 0 ≤ k ∧ k ≤ 1000) → ∀ (a b c d : Option Mv) (h : Mh), wLoop (.nm 1) w_law_b1 D xs [some (.sc (ns.map Mv.int)), a, b, c, d] h
  | [], _, a, b, c, d, h => loop_nil (hD a b c d h)
  | x :: xs, hx, a, b, c, d, h => by
    obtain ⟨k, rfl, k0, k1⟩ := hx x List.mem_cons_self
    refine loop_step rfl fun L hL => ?_
    unfold w_law_b1
    walk_at "w"
    refine hand_use k0 k1 fun n o hn ho => ?_
    refine size_use hset_same ho (by omega) fun r o1 hr ho1 => ?_
    walk_at "w"
    refine ⟨by decide, ?_⟩
    refine right_lc hr (fun _ => rfl) (fun _ => rfl) (fun m h' => ?_) _ _ o1 3 0 hset_same (ho1.mono (by omega)) (by decide)
    refine fAll_use ?_
    walk_at "w"
    rw [hL]
    exact law_loop hD xs (fun y hy => hx y (List.mem_cons_of_mem _ hy)) _ _ _ _ _
theorem P_law (ms : List Mv) (h : Mh) (Q : Mv → Mh → Prop) (q : S_law ms h Q) : w_law ⟨fun _ h' => Q .non h', Q, fun _ _ => False, fun _ _ => False⟩ (startE ["_law_script", "_law_k", "_law_hand_here", "_law_size_here", "_law_turn"].length ms) h := by
  obtain ⟨ns, rfl, hl, q⟩ := q
  show w_law _ [some (.sc (ns.map Mv.int)), none, none, none, none] h
  unfold w_law
  walk_at "w"
  refine ⟨by split <;> omega, by split <;> omega, law_loop (fun a b c d h => ?_) _ (fun x hx => ?_) _ _ _ _ _⟩
  · walk_at "w"
    exact ⟨true, ⟨_, _, rfl, rfl, by with_unfolding_all rfl, by with_unfolding_all rfl, by with_unfolding_all rfl⟩, q _⟩
  · obtain ⟨k, e, k0, k1⟩ := rng_items hx
    refine ⟨k, e, k0, ?_⟩
    split at k1 <;> omega
open PySem.Spec PyProof.Rows
def top (i : Nat) : Stmt := PySem.Challenge.pw_roundstore_k02_on_and_steps.main.body.getD i (.Pass ⟨0, 0, 0, 0⟩)
abbrev s_on : Stmt := top 4
theorem sc_on : FnScope ["number", "many", "ring"] ["number", "many", "ring"] (defScope s_on) := ⟨rfl, rfl, rfl, by decide +kernel, rfl, by decide +kernel, by decide +kernel⟩
abbrev s_steps : Stmt := top 5
theorem sc_steps : FnScope ["one", "other", "ring"] ["one", "other", "ring"] (defScope s_steps) := ⟨rfl, rfl, rfl, by decide +kernel, rfl, by decide +kernel, by decide +kernel⟩
abbrev s_law_hand : Stmt := top 7
theorem sc_law_hand : FnScope ["_law_script", "_law_k", "_law_cell", "_law_great"] ["_law_script", "_law_k"] (defScope s_law_hand) := ⟨rfl, rfl, rfl, by decide +kernel, rfl, by decide +kernel, by decide +kernel⟩
abbrev s_law_take : Stmt := top 8
theorem sc_law_take : FnScope ["_law_hand_here", "_law_many", "_law_digit", "_law_primes", "_law_prime", "_law_drawn"] ["_law_hand_here", "_law_many"] (defScope s_law_take) := ⟨rfl, rfl, rfl, by decide +kernel, rfl, by decide +kernel, by decide +kernel⟩
abbrev s_law_of : Stmt := top 9
theorem sc_law_of : FnScope ["_law_hand_here", "_law_some"] ["_law_hand_here", "_law_some"] (defScope s_law_of) := ⟨rfl, rfl, rfl, by decide +kernel, rfl, by decide +kernel, by decide +kernel⟩
abbrev s_law_size : Stmt := top 10
theorem sc_law_size : FnScope ["_law_hand_here", "_law_some"] ["_law_hand_here"] (defScope s_law_size) := ⟨rfl, rfl, rfl, by decide +kernel, rfl, by decide +kernel, by decide +kernel⟩
abbrev s_law_gone : Stmt := top 11
theorem sc_law_gone : FnScope ["_law_number_here", "_law_many", "_law_size_here", "_law_rest"] ["_law_number_here", "_law_many", "_law_size_here"] (defScope s_law_gone) := ⟨rfl, rfl, rfl, by decide +kernel, rfl, by decide +kernel, by decide +kernel⟩
abbrev s_law_way : Stmt := top 12
theorem sc_law_way : FnScope ["_law_one", "_law_other", "_law_size_here"] ["_law_one", "_law_other", "_law_size_here"] (defScope s_law_way) := ⟨rfl, rfl, rfl, by decide +kernel, rfl, by decide +kernel, by decide +kernel⟩
abbrev s_law_number : Stmt := top 13
theorem sc_law_number : FnScope ["_law_hand_here", "_law_size_here"] ["_law_hand_here", "_law_size_here"] (defScope s_law_number) := ⟨rfl, rfl, rfl, by decide +kernel, rfl, by decide +kernel, by decide +kernel⟩
abbrev s_law_whole : Stmt := top 14
theorem sc_law_whole : FnScope ["_law_told", "_law_due"] ["_law_told", "_law_due"] (defScope s_law_whole) := ⟨rfl, rfl, rfl, by decide +kernel, rfl, by decide +kernel, by decide +kernel⟩
abbrev s_law_right : Stmt := top 15
theorem sc_law_right : FnScope ["_law_hand_here", "_law_size_here", "_law_one", "_law_other", "_law_far", "_law_due"] ["_law_hand_here", "_law_size_here"] (defScope s_law_right) := ⟨rfl, rfl, rfl, by decide +kernel, rfl, by decide +kernel, by decide +kernel⟩
abbrev s_law : Stmt := top 16
theorem sc_law : FnScope ["_law_script", "_law_k", "_law_hand_here", "_law_size_here", "_law_turn"] ["_law_script"] (defScope s_law) := ⟨rfl, rfl, rfl, by decide +kernel, rfl, by decide +kernel, by decide +kernel⟩
section
variable {P : Program} {w : World} {K : PySem.W.Frag} {mg : Str → Option Value} {base : Heap} {f : Addr} {fd : FuncData}
theorem kr_RING {K : PySem.W.Frag} : KRep K (.int 64) (.int 64) := fun _ _ _ => .int _
theorem kr_STOP {K : PySem.W.Frag} : KRep K (.int 28) (.int 28) := fun _ _ _ => .int _
theorem kr_WARN {K : PySem.W.Frag} : KRep K (.int 20) (.int 20) := fun _ _ _ => .int _
theorem ok_on (F : FunD K "on" "on" (defArgs s_on) (defBody s_on) (defScope s_on) [] [("ring", ((.int 64) : V))] f fd) : FnOk P w K mg base CX0 1 f fd ["number", "many", "ring"] (spL K S_on) :=
  fn_mv F sc_on len_on (fun cdv A outer s H E hr => by
    unfold w_on
    exact (s_one (s_ret (j_bin op_mod m_mod (j_bin op_add m_add (j_var (pv 0)) (j_var (pv 1))) (j_var (pv 2)))))) P_on
theorem ok_steps (F : FunD K "steps" "steps" (defArgs s_steps) (defBody s_steps) (defScope s_steps) [] [("ring", ((.int 64) : V))] f fd) : FnOk P w K mg base CX0 1 f fd ["one", "other", "ring"] (spL K S_steps) :=
  fn_mv F sc_steps len_steps (fun cdv A outer s H E hr => by
    unfold w_steps
    exact (s_one (s_ret (j_bin op_mod m_mod (j_bin op_sub m_sub (j_var (pv 1)) (j_var (pv 0))) (j_var (pv 2)))))) P_steps
theorem ok_law_hand (F : FunD K "_law_hand" "_law_hand" (defArgs s_law_hand) (defBody s_law_hand) (defScope s_law_hand) [] [] f fd) (z_abs : mg "abs" = none) (z_int : mg "int" = none) (z_len : mg "len" = none) : FnOk P w K mg base CX0 1 f fd ["_law_script", "_law_k"] (spL K S_law_hand) :=
  fn_mv F sc_law_hand len_law_hand (fun cdv A outer s H E hr => by
    unfold w_law_hand
    exact (s_cons (s_set (i := 2) sc_law_hand.nd rfl (Or.inl rfl) (j_if (j_tcmp op_lt m_lt (j_var (pv 1)) (j_cb m_len (pe_callB call_lenA rfl z_len (by decide +kernel) (ja_cons (j_var (pv 0)) ja_nil))) (nomark _)) (j_ix ix_seq m_ix (j_var (pv 0)) (j_var (pv 1)) (fun _ _ => rfl)) j_int)) (s_cons (s_set (i := 3) sc_law_hand.nd rfl (Or.inl rfl) (j_bin op_mulA m_mulI (j_bin op_mod m_mod (j_cb m_abs (pe_callB call_abs rfl z_abs (by decide +kernel) (ja_cons (j_var (pv 2)) ja_nil))) (j_bin op_mulA m_mulI (j_bin op_pow m_pow j_int j_int) (j_bin op_pow m_pow j_int j_int))) (j_cb m_int (pe_callTy call_int1 rfl z_int (by decide +kernel) (ja_cons (j_cmp op_ge m_ge (j_cb m_abs (pe_callB call_abs rfl z_abs (by decide +kernel) (ja_cons (j_var (pv 2)) ja_nil))) (j_bin op_pow m_pow j_int j_int) (nomark _)) ja_nil))))) (s_one (s_ret (j_new (j_lst (ja_cons (j_var (pv 3)) (ja_cons (j_bin op_add m_add (j_bin op_add m_add (j_bin op_mod m_mod (j_var (pv 2)) j_int) (j_bin op_mulA m_mulI j_int (j_var (pv 1)))) j_int) (ja_cons j_int ja_nil)))))))))) P_law_hand
theorem ok_law_take (F : FunD K "_law_take" "_law_take" (defArgs s_law_take) (defBody s_law_take) (defScope s_law_take) [] [] f fd) : FnOk P w K mg base CX0 1 f fd ["_law_hand_here", "_law_many"] (spL K S_law_take) :=
  fn_mv F sc_law_take len_law_take (fun cdv A outer s H E hr => by
    unfold w_law_take
    exact (s_cons (s_if (j_tcmp op_gt m_gt (j_ix ix_seq m_ix (j_var (pv 0)) j_int (fun _ _ => rfl)) j_int (nomark _)) (s_cons (s_set (i := 2) sc_law_take.nd rfl (Or.inl rfl) (j_bin op_mod m_mod (j_ix ix_seq m_ix (j_var (pv 0)) j_int (fun _ _ => rfl)) (j_var (pv 1)))) (s_cons (s_put (j_bin op_fdivW m_div (j_ix ix_seq m_ix (j_var (pv 0)) j_int (fun _ _ => rfl)) (j_var (pv 1))) (j_var (pv 0)) j_int) (s_one (s_ret (j_var (pv 2)))))) s_nil) (s_cons (s_put (j_bin op_add m_add (j_ix ix_seq m_ix (j_var (pv 0)) j_int (fun _ _ => rfl)) j_int) (j_var (pv 0)) j_int) (s_cons (s_set (i := 3) sc_law_take.nd rfl (Or.inl rfl) (j_fz (j_lst (ja_cons j_int (ja_cons j_int (ja_cons j_int (ja_cons j_int (ja_cons j_int (ja_cons j_int (ja_cons j_int (ja_cons j_int ja_nil))))))))))) (s_cons (s_set (i := 4) sc_law_take.nd rfl (Or.inl rfl) (j_ix ix_seq m_ix (j_var (pv 3)) (j_bin op_mod m_mod (j_ix ix_seq m_ix (j_var (pv 0)) j_int (fun _ _ => rfl)) j_int) (fun _ _ => rfl))) (s_cons (s_set (i := 5) sc_law_take.nd rfl (Or.inl rfl) (j_bin op_mod m_mod (j_bin op_pow m_pow (j_bin op_add m_add (j_ix ix_seq m_ix (j_var (pv 0)) j_int (fun _ _ => rfl)) (j_bin op_mulA m_mulI j_int (j_ix ix_seq m_ix (j_var (pv 0)) j_int (fun _ _ => rfl)))) j_int) (j_var (pv 4)))) (s_one (s_ret (j_bin op_mod m_mod (j_bin op_fdivW m_div (j_bin op_mod m_mod (j_bin op_mulA m_mulI (j_var (pv 5)) (j_bin op_add m_add (j_bin op_mod m_mod (j_var (pv 5)) j_int) (j_ix ix_seq m_ix (j_var (pv 0)) j_int (fun _ _ => rfl)))) (j_var (pv 4))) j_int) (j_var (pv 1))))))))))) P_law_take
theorem ok_law_of (F : FunD K "_law_of" "_law_of" (defArgs s_law_of) (defBody s_law_of) (defScope s_law_of) [] [] f fd) (C_law_take : CalP P w K mg base 1 "_law_take" [] S_law_take) (z_len : mg "len" = none) : FnOk P w K mg base CX0 2 f fd ["_law_hand_here", "_law_some"] (spL K S_law_of) :=
  fn_mv F sc_law_of len_law_of (fun cdv A outer s H E hr => by
    unfold w_law_of
    exact (s_one (s_ret (j_ix ix_seq m_ix (j_var (pv 1)) (j_call C_law_take hr (by decide) rfl (ja_cons (j_var (pv 0)) (ja_cons (j_cb m_len (pe_callB call_lenA rfl z_len (by decide +kernel) (ja_cons (j_var (pv 1)) ja_nil))) ja_nil))) (fun _ _ => rfl))))) P_law_of
theorem ok_law_size (F : FunD K "_law_size" "_law_size" (defArgs s_law_size) (defBody s_law_size) (defScope s_law_size) [] [] f fd) (C_law_of : CalP P w K mg base 2 "_law_of" [] S_law_of) (C_law_take : CalP P w K mg base 1 "_law_take" [] S_law_take) : FnOk P w K mg base CX0 3 f fd ["_law_hand_here"] (spL K S_law_size) :=
  fn_mv F sc_law_size len_law_size (fun cdv A outer s H E hr => by
    unfold w_law_size
    exact (s_cons (s_set (i := 1) sc_law_size.nd rfl (Or.inl rfl) (j_fz (j_lst (ja_cons j_int (ja_cons j_int (ja_cons j_int (ja_cons j_int (ja_cons j_int (ja_cons j_int (ja_cons (j_bin op_mulA m_mulI j_int (j_bin op_add m_add j_int (j_call C_law_take hr (by decide) rfl (ja_cons (j_var (pv 0)) (ja_cons j_int ja_nil))))) (ja_cons (j_bin op_mulA m_mulI j_int (j_bin op_add m_add j_int (j_call C_law_take hr (by decide) rfl (ja_cons (j_var (pv 0)) (ja_cons (j_bin op_sub m_sub (j_bin op_pow m_pow j_int j_int) j_int) ja_nil))))) ja_nil))))))))))) (s_one (s_ret (j_call C_law_of hr (by decide) rfl (ja_cons (j_var (pv 0)) (ja_cons (j_fz (j_catL (j_var (pv 1)) (j_fz (j_lst (ja_cons (j_bin op_pow m_pow j_int j_int) (ja_cons (j_bin op_sub m_sub (j_bin op_pow m_pow j_int j_int) j_int) ja_nil)))))) ja_nil))))))) P_law_size
theorem ok_law_gone (F : FunD K "_law_gone" "_law_gone" (defArgs s_law_gone) (defBody s_law_gone) (defScope s_law_gone) [] [] f fd) : FnOk P w K mg base CX0 1 f fd ["_law_number_here", "_law_many", "_law_size_here"] (spL K S_law_gone) :=
  fn_mv F sc_law_gone len_law_gone (fun cdv A outer s H E hr => by
    unfold w_law_gone
    exact (s_cons (s_set (i := 3) sc_law_gone.nd rfl (Or.inl rfl) (j_bin op_sub m_sub (j_var (pv 1)) (j_bin op_mulA m_mulI (j_bin op_fdivW m_div (j_var (pv 1)) (j_var (pv 2))) (j_var (pv 2))))) (s_one (s_ret (j_if (j_tcmp op_lt m_lt (j_bin op_add m_add (j_var (pv 0)) (j_var (pv 3))) (j_var (pv 2)) (nomark _)) (j_bin op_add m_add (j_var (pv 0)) (j_var (pv 3))) (j_bin op_sub m_sub (j_bin op_add m_add (j_var (pv 0)) (j_var (pv 3))) (j_var (pv 2)))))))) P_law_gone
theorem ok_law_way (F : FunD K "_law_way" "_law_way" (defArgs s_law_way) (defBody s_law_way) (defScope s_law_way) [] [] f fd) : FnOk P w K mg base CX0 1 f fd ["_law_one", "_law_other", "_law_size_here"] (spL K S_law_way) :=
  fn_mv F sc_law_way len_law_way (fun cdv A outer s H E hr => by
    unfold w_law_way
    exact (s_one (s_ret (j_if (j_tcmp op_ge m_ge (j_var (pv 1)) (j_var (pv 0)) (nomark _)) (j_bin op_sub m_sub (j_var (pv 1)) (j_var (pv 0))) (j_bin op_add m_add (j_bin op_sub m_sub (j_var (pv 1)) (j_var (pv 0))) (j_var (pv 2))))))) P_law_way
theorem ok_law_number (F : FunD K "_law_number" "_law_number" (defArgs s_law_number) (defBody s_law_number) (defScope s_law_number) [] [] f fd) (C_law_of : CalP P w K mg base 2 "_law_of" [] S_law_of) (C_law_take : CalP P w K mg base 1 "_law_take" [] S_law_take) : FnOk P w K mg base CX0 3 f fd ["_law_hand_here", "_law_size_here"] (spL K S_law_number) :=
  fn_mv F sc_law_number len_law_number (fun cdv A outer s H E hr => by
    unfold w_law_number
    exact (s_one (s_ret (j_call C_law_of hr (by decide) rfl (ja_cons (j_var (pv 0)) (ja_cons (j_fz (j_lst (ja_cons j_int (ja_cons (j_bin op_sub m_sub (j_var (pv 1)) j_int) (ja_cons (j_bin op_fdivW m_div (j_var (pv 1)) j_int) (ja_cons (j_call C_law_take hr (by decide) rfl (ja_cons (j_var (pv 0)) (ja_cons (j_var (pv 1)) ja_nil))) (ja_cons (j_call C_law_take hr (by decide) rfl (ja_cons (j_var (pv 0)) (ja_cons (j_var (pv 1)) ja_nil))) ja_nil))))))) ja_nil)))))) P_law_number
theorem ok_law_whole (F : FunD K "_law_whole" "_law_whole" (defArgs s_law_whole) (defBody s_law_whole) (defScope s_law_whole) [] [] f fd) (z_bool : mg "bool" = none) (z_int : mg "int" = none) (z_isinstance : mg "isinstance" = none) : FnOk P w K mg base CX0 1 f fd ["_law_told", "_law_due"] (spL K S_law_whole) :=
  fn_mv F sc_law_whole len_law_whole (fun cdv A outer s H E hr => by
    unfold w_law_whole
    exact (s_one (s_ret (j_andV (j_cb m_isi (pe_callB call_isi rfl z_isinstance (by decide +kernel) (ja_cons (j_var (pv 0)) (ja_cons (j_glob (v := .ty "int") (pe_bltn rfl z_int (by decide +kernel) rfl) (fun _ _ _ => .ty _)) ja_nil)))) (j_andV (j_notV (j_cb m_isi (pe_callB call_isi rfl z_isinstance (by decide +kernel) (ja_cons (j_var (pv 0)) (ja_cons (j_glob (v := .ty "bool") (pe_bltn rfl z_bool (by decide +kernel) rfl) (fun _ _ _ => .ty _)) ja_nil))))) (j_one (j_cmp (op_eqDI hr.units) (m_eqG _) (j_var (pv 0)) (j_var (pv 1)) (nomark _)))))))) P_law_whole
theorem ok_law_right (F : FunD K "_law_right" "_law_right" (defArgs s_law_right) (defBody s_law_right) (defScope s_law_right) [] [] f fd) (C_law_gone : CalP P w K mg base 1 "_law_gone" [] S_law_gone) (C_law_number : CalP P w K mg base 3 "_law_number" [] S_law_number) (C_law_of : CalP P w K mg base 2 "_law_of" [] S_law_of) (C_law_take : CalP P w K mg base 1 "_law_take" [] S_law_take) (C_law_way : CalP P w K mg base 1 "_law_way" [] S_law_way) (C_law_whole : CalP P w K mg base 1 "_law_whole" [] S_law_whole) (C_on : CalP P w K mg base 1 "on" [(.int 64)] S_on) (C_steps : CalP P w K mg base 1 "steps" [(.int 64)] S_steps) (K_on_ring : CalK P w K mg base 1 "on" 2 ["ring"] gK_on_ring S_on) (K_steps_ring : CalK P w K mg base 1 "steps" 2 ["ring"] gK_steps_ring S_steps) (g_RING : ∃ u, mg "RING" = some u ∧ RelV (.int 64) u) : FnOk P w K mg base CX0 4 f fd ["_law_hand_here", "_law_size_here"] (spL K S_law_right) :=
  fn_mv F sc_law_right len_law_right (fun cdv A outer s H E hr => by
    unfold w_law_right
    exact (s_cons (s_par (i := 2) (j := 3) sc_law_right.nd rfl rfl (by decide) rfl rfl (ja_cons (j_call C_law_number hr (by decide) rfl (ja_cons (j_var (pv 0)) (ja_cons (j_var (pv 1)) ja_nil))) (ja_cons (j_call C_law_number hr (by decide) rfl (ja_cons (j_var (pv 0)) (ja_cons (j_var (pv 1)) ja_nil))) ja_nil)) rfl) (s_cons (s_set (i := 4) sc_law_right.nd rfl (Or.inl rfl) (j_call C_law_of hr (by decide) rfl (ja_cons (j_var (pv 0)) (ja_cons (j_fz (j_lst (ja_cons j_int (ja_cons j_int (ja_cons (j_bin op_sub m_sub (j_var (pv 1)) j_int) (ja_cons (j_var (pv 1)) (ja_cons (j_bin op_add m_add (j_var (pv 1)) j_int) (ja_cons (j_bin op_fdivW m_div (j_var (pv 1)) j_int) (ja_cons (j_call C_law_take hr (by decide) rfl (ja_cons (j_var (pv 0)) (ja_cons j_int ja_nil))) (ja_cons (j_call C_law_take hr (by decide) rfl (ja_cons (j_var (pv 0)) (ja_cons (j_bin op_pow m_pow j_int j_int) ja_nil))) ja_nil)))))))))) ja_nil)))) (s_cons (s_set (i := 5) sc_law_right.nd rfl (Or.inl rfl) (j_tup (ja_cons (j_call C_law_gone hr (by decide) rfl (ja_cons (j_var (pv 2)) (ja_cons (j_var (pv 4)) (ja_cons (j_var (pv 1)) ja_nil)))) (ja_cons (j_call C_law_way hr (by decide) rfl (ja_cons (j_var (pv 2)) (ja_cons (j_var (pv 3)) (ja_cons (j_var (pv 1)) ja_nil)))) ja_nil)))) (s_cons (s_if (PW.pt (j_or (j_not (j_tval (j_call C_law_whole hr (by decide) rfl (ja_cons (j_callK K_on_ring rfl hr (by decide) rfl (ja_cons (j_var (pv 2)) (ja_cons (j_var (pv 4)) ja_nil)) (jk_cons (j_var (pv 1)) jk_nil)) (ja_cons (j_ix ix_seq m_ix (j_var (pv 5)) j_int (fun _ _ => rfl)) ja_nil))))) (j_or1 (j_not (j_tval (j_call C_law_whole hr (by decide) rfl (ja_cons (j_callK K_steps_ring rfl hr (by decide) rfl (ja_cons (j_var (pv 2)) (ja_cons (j_var (pv 3)) ja_nil)) (jk_cons (j_var (pv 1)) jk_nil)) (ja_cons (j_ix ix_seq m_ix (j_var (pv 5)) j_int (fun _ _ => rfl)) ja_nil)))))))) (s_one (s_ret j_bl)) s_nil) (s_cons (s_if (PW.pt (j_and (j_tcmp (op_eqDI hr.units) (m_eqG _) (j_var (pv 1)) (j_glob (pe_glob rfl g_RING.choose_spec.1 g_RING.choose_spec.2) (kr_RING)) (nomark _)) (j_and1 (j_tcmp (op_neDI hr.units) (m_eqG _) (j_tup (ja_cons (j_call C_on hr (by decide) rfl (ja_cons (j_var (pv 2)) (ja_cons (j_var (pv 4)) ja_nil))) (ja_cons (j_call C_steps hr (by decide) rfl (ja_cons (j_var (pv 2)) (ja_cons (j_var (pv 3)) ja_nil))) ja_nil))) (j_var (pv 5)) (nomark _))))) (s_one (s_ret j_bl)) s_nil) (s_one (s_ret (j_cmp (op_eqDI hr.units) (m_eqG _) (j_callK K_on_ring rfl hr (by decide) rfl (ja_cons (j_var (pv 2)) (ja_cons (j_callK K_steps_ring rfl hr (by decide) rfl (ja_cons (j_var (pv 2)) (ja_cons (j_var (pv 3)) ja_nil)) (jk_cons (j_var (pv 1)) jk_nil)) ja_nil)) (jk_cons (j_var (pv 1)) jk_nil)) (j_var (pv 3)) (nomark _)))))))))) P_law_right
theorem ok_law (F : FunD K "law" "law" (defArgs s_law) (defBody s_law) (defScope s_law) [] [] f fd) (C_law_hand : CalP P w K mg base 1 "_law_hand" [] S_law_hand) (C_law_right : CalP P w K mg base 4 "_law_right" [] S_law_right) (C_law_size : CalP P w K mg base 3 "_law_size" [] S_law_size) (g_RING : ∃ u, mg "RING" = some u ∧ RelV (.int 64) u) (g_STOP : ∃ u, mg "STOP" = some u ∧ RelV (.int 28) u) (g_WARN : ∃ u, mg "WARN" = some u ∧ RelV (.int 20) u) (z_all : mg "all" = none) (z_len : mg "len" = none) (z_min : mg "min" = none) (z_range : mg "range" = none) : FnOk P w K mg base CX0 5 f fd ["_law_script"] (spL K S_law) :=
  fn_mv F sc_law len_law (fun cdv A outer s H E hr => by
    unfold w_law w_law_b1 w_law_e1
    exact (s_cons (s_for PassesOwn.never rfl (si_rng1 (pi_range1 rfl z_range (ja_cons (j_bin op_add m_add j_int (j_cb m_2I (pe_callB (call_min2 rfl) rfl z_min (by decide +kernel) (ja_cons j_int (ja_cons (j_cb m_len (pe_callB call_lenA rfl z_len (by decide +kernel) (ja_cons (j_var (pv 0)) ja_nil))) ja_nil))))) ja_nil))) (pg_name (i := 1) sc_law.nd rfl (Or.inl rfl)) (s_cons (s_set (i := 2) sc_law.nd rfl (Or.inr rfl) (j_call C_law_hand hr (by decide) rfl (ja_cons (j_var (pv 0)) (ja_cons (j_var (pv 1)) ja_nil)))) (s_cons (s_set (i := 3) sc_law.nd rfl (Or.inr rfl) (j_call C_law_size hr (by decide) rfl (ja_cons (j_var (pv 2)) ja_nil))) (s_one (s_if (j_not (j_tval (j_cb m_all (pe_callB (cr_all rfl) rfl z_all (by decide +kernel) (ja_cons (j_fz (j_lc (own := [("_law_turn", 4)]) rfl rfl sc_law.nd (si_rng1 (pi_range1 rfl z_range (ja_cons j_int ja_nil))) (blkOk_by (N := ["_law_script", "_law_k", "_law_hand_here", "_law_size_here", "_law_turn"]) (sc := defScope s_law) (by decide +kernel)) (fun _ _ _ _ _ => (pg_name (i := 4) sc_law.nd rfl (Or.inl rfl))) (fun _ _ _ _ _ => j_yes) (fun _ _ _ _ _ => (j_andV (j_call C_law_right hr (by decide) rfl (ja_cons (j_var (pv 2)) (ja_cons (j_var (pv 3)) ja_nil))) (j_one (j_call C_law_right hr (by decide) rfl (ja_cons (j_var (pv 2)) (ja_cons j_int ja_nil)))))))) ja_nil))))) (s_one (s_ret j_bl)) s_nil))))) (s_one (s_ret (j_cmp (op_eqDI hr.units) (m_eqG _) (j_tup (ja_cons (j_glob (pe_glob rfl g_RING.choose_spec.1 g_RING.choose_spec.2) (kr_RING)) (ja_cons (j_glob (pe_glob rfl g_STOP.choose_spec.1 g_STOP.choose_spec.2) (kr_STOP)) (ja_cons (j_glob (pe_glob rfl g_WARN.choose_spec.1 g_WARN.choose_spec.2) (kr_WARN)) ja_nil)))) (j_tup (ja_cons j_int (ja_cons j_int (ja_cons j_int ja_nil)))) (nomark _)))))) P_law
end
theorem all_mk {l : PySem.W.OpenLaw} {w : World} {K : PySem.W.Frag} {h : Heap} {mg : Str → Option Value} {fa : Addr} (X : K.In h) (G : h.Ns mainGlobals mg) (hfa : mg "law" = some (.ref fa))
    {oc0 dV0 kV0 dc0 pm0 cd0 ct0 : Value} {od0 an0 : Option Addr} {sl0 : Array (Option Value)} {f0 : Addr}
    {D0 : Addr} {t0_0 : Tok}
    {oc1 dV1 kV1 dc1 pm1 cd1 ct1 : Value} {od1 an1 : Option Addr} {sl1 : Array (Option Value)} {f1 : Addr}
    {D1 : Addr} {t1_0 : Tok}
    {oc2 dV2 kV2 dc2 pm2 cd2 ct2 : Value} {od2 an2 : Option Addr} {sl2 : Array (Option Value)} {f2 : Addr}
    {oc3 dV3 kV3 dc3 pm3 cd3 ct3 : Value} {od3 an3 : Option Addr} {sl3 : Array (Option Value)} {f3 : Addr}
    {oc4 dV4 kV4 dc4 pm4 cd4 ct4 : Value} {od4 an4 : Option Addr} {sl4 : Array (Option Value)} {f4 : Addr}
    {oc5 dV5 kV5 dc5 pm5 cd5 ct5 : Value} {od5 an5 : Option Addr} {sl5 : Array (Option Value)} {f5 : Addr}
    {oc6 dV6 kV6 dc6 pm6 cd6 ct6 : Value} {od6 an6 : Option Addr} {sl6 : Array (Option Value)} {f6 : Addr}
    {oc7 dV7 kV7 dc7 pm7 cd7 ct7 : Value} {od7 an7 : Option Addr} {sl7 : Array (Option Value)} {f7 : Addr}
    {oc8 dV8 kV8 dc8 pm8 cd8 ct8 : Value} {od8 an8 : Option Addr} {sl8 : Array (Option Value)} {f8 : Addr}
    {oc9 dV9 kV9 dc9 pm9 cd9 ct9 : Value} {od9 an9 : Option Addr} {sl9 : Array (Option Value)} {f9 : Addr}
    {oc10 dV10 kV10 dc10 pm10 cd10 ct10 : Value} {od10 an10 : Option Addr} {sl10 : Array (Option Value)} {f10 : Addr}
    {oc11 dV11 kV11 dc11 pm11 cd11 ct11 : Value} {od11 an11 : Option Addr} {sl11 : Array (Option Value)} {f11 : Addr}
    {tg_RING : Tok}
    {tg_STOP : Tok}
    {tg_WARN : Tok}
    (a0 : PySem.W.nsIn K mainGlobals "on" = some (some (.ref f0)))
    (l0 : K.lookup f0 = some ⟨oc0, od0, .func (PySem.W.fnOf "on" "on" (defArgs s_on) (defBody s_on) (defScope s_on) dV0 kV0 dc0 pm0 an0 cd0 ct0), sl0⟩)
    (c0 : PySem.W.codeIn K cd0 "on" = true)
    (k0 : PySem.W.keepIn K (.ref f0) = true)
    (e0 : dV0 = Value.none)
    (q0 : kV0 = Value.ref D0)
    (q0_0 : PySem.W.nsIn K D0 "ring" = some (some (Value.int 64 t0_0)))
    (a1 : PySem.W.nsIn K mainGlobals "steps" = some (some (.ref f1)))
    (l1 : K.lookup f1 = some ⟨oc1, od1, .func (PySem.W.fnOf "steps" "steps" (defArgs s_steps) (defBody s_steps) (defScope s_steps) dV1 kV1 dc1 pm1 an1 cd1 ct1), sl1⟩)
    (c1 : PySem.W.codeIn K cd1 "steps" = true)
    (k1 : PySem.W.keepIn K (.ref f1) = true)
    (e1 : dV1 = Value.none)
    (q1 : kV1 = Value.ref D1)
    (q1_0 : PySem.W.nsIn K D1 "ring" = some (some (Value.int 64 t1_0)))
    (a2 : PySem.W.nsIn K mainGlobals "_law_hand" = some (some (.ref f2)))
    (l2 : K.lookup f2 = some ⟨oc2, od2, .func (PySem.W.fnOf "_law_hand" "_law_hand" (defArgs s_law_hand) (defBody s_law_hand) (defScope s_law_hand) dV2 kV2 dc2 pm2 an2 cd2 ct2), sl2⟩)
    (c2 : PySem.W.codeIn K cd2 "_law_hand" = true)
    (k2 : PySem.W.keepIn K (.ref f2) = true)
    (e2 : dV2 = Value.none)
    (a3 : PySem.W.nsIn K mainGlobals "_law_take" = some (some (.ref f3)))
    (l3 : K.lookup f3 = some ⟨oc3, od3, .func (PySem.W.fnOf "_law_take" "_law_take" (defArgs s_law_take) (defBody s_law_take) (defScope s_law_take) dV3 kV3 dc3 pm3 an3 cd3 ct3), sl3⟩)
    (c3 : PySem.W.codeIn K cd3 "_law_take" = true)
    (k3 : PySem.W.keepIn K (.ref f3) = true)
    (e3 : dV3 = Value.none)
    (a4 : PySem.W.nsIn K mainGlobals "_law_of" = some (some (.ref f4)))
    (l4 : K.lookup f4 = some ⟨oc4, od4, .func (PySem.W.fnOf "_law_of" "_law_of" (defArgs s_law_of) (defBody s_law_of) (defScope s_law_of) dV4 kV4 dc4 pm4 an4 cd4 ct4), sl4⟩)
    (c4 : PySem.W.codeIn K cd4 "_law_of" = true)
    (k4 : PySem.W.keepIn K (.ref f4) = true)
    (e4 : dV4 = Value.none)
    (a5 : PySem.W.nsIn K mainGlobals "_law_size" = some (some (.ref f5)))
    (l5 : K.lookup f5 = some ⟨oc5, od5, .func (PySem.W.fnOf "_law_size" "_law_size" (defArgs s_law_size) (defBody s_law_size) (defScope s_law_size) dV5 kV5 dc5 pm5 an5 cd5 ct5), sl5⟩)
    (c5 : PySem.W.codeIn K cd5 "_law_size" = true)
    (k5 : PySem.W.keepIn K (.ref f5) = true)
    (e5 : dV5 = Value.none)
    (a6 : PySem.W.nsIn K mainGlobals "_law_gone" = some (some (.ref f6)))
    (l6 : K.lookup f6 = some ⟨oc6, od6, .func (PySem.W.fnOf "_law_gone" "_law_gone" (defArgs s_law_gone) (defBody s_law_gone) (defScope s_law_gone) dV6 kV6 dc6 pm6 an6 cd6 ct6), sl6⟩)
    (c6 : PySem.W.codeIn K cd6 "_law_gone" = true)
    (k6 : PySem.W.keepIn K (.ref f6) = true)
    (e6 : dV6 = Value.none)
    (a7 : PySem.W.nsIn K mainGlobals "_law_way" = some (some (.ref f7)))
    (l7 : K.lookup f7 = some ⟨oc7, od7, .func (PySem.W.fnOf "_law_way" "_law_way" (defArgs s_law_way) (defBody s_law_way) (defScope s_law_way) dV7 kV7 dc7 pm7 an7 cd7 ct7), sl7⟩)
    (c7 : PySem.W.codeIn K cd7 "_law_way" = true)
    (k7 : PySem.W.keepIn K (.ref f7) = true)
    (e7 : dV7 = Value.none)
    (a8 : PySem.W.nsIn K mainGlobals "_law_number" = some (some (.ref f8)))
    (l8 : K.lookup f8 = some ⟨oc8, od8, .func (PySem.W.fnOf "_law_number" "_law_number" (defArgs s_law_number) (defBody s_law_number) (defScope s_law_number) dV8 kV8 dc8 pm8 an8 cd8 ct8), sl8⟩)
    (c8 : PySem.W.codeIn K cd8 "_law_number" = true)
    (k8 : PySem.W.keepIn K (.ref f8) = true)
    (e8 : dV8 = Value.none)
    (a9 : PySem.W.nsIn K mainGlobals "_law_whole" = some (some (.ref f9)))
    (l9 : K.lookup f9 = some ⟨oc9, od9, .func (PySem.W.fnOf "_law_whole" "_law_whole" (defArgs s_law_whole) (defBody s_law_whole) (defScope s_law_whole) dV9 kV9 dc9 pm9 an9 cd9 ct9), sl9⟩)
    (c9 : PySem.W.codeIn K cd9 "_law_whole" = true)
    (k9 : PySem.W.keepIn K (.ref f9) = true)
    (e9 : dV9 = Value.none)
    (a10 : PySem.W.nsIn K mainGlobals "_law_right" = some (some (.ref f10)))
    (l10 : K.lookup f10 = some ⟨oc10, od10, .func (PySem.W.fnOf "_law_right" "_law_right" (defArgs s_law_right) (defBody s_law_right) (defScope s_law_right) dV10 kV10 dc10 pm10 an10 cd10 ct10), sl10⟩)
    (c10 : PySem.W.codeIn K cd10 "_law_right" = true)
    (k10 : PySem.W.keepIn K (.ref f10) = true)
    (e10 : dV10 = Value.none)
    (a11 : PySem.W.nsIn K mainGlobals "law" = some (some (.ref f11)))
    (l11 : K.lookup f11 = some ⟨oc11, od11, .func (PySem.W.fnOf "law" "law" (defArgs s_law) (defBody s_law) (defScope s_law) dV11 kV11 dc11 pm11 an11 cd11 ct11), sl11⟩)
    (c11 : PySem.W.codeIn K cd11 "law" = true)
    (k11 : PySem.W.keepIn K (.ref f11) = true)
    (e11 : dV11 = Value.none)
    (gg_RING : PySem.W.nsIn K mainGlobals "RING" = some (some (Value.int 64 tg_RING)))
    (gg_STOP : PySem.W.nsIn K mainGlobals "STOP" = some (some (Value.int 28 tg_STOP)))
    (gg_WARN : PySem.W.nsIn K mainGlobals "WARN" = some (some (Value.int 20 tg_WARN)))
    (zz_abs : PySem.W.nsIn K mainGlobals "abs" = some none)
    (zz_all : PySem.W.nsIn K mainGlobals "all" = some none)
    (zz_bool : PySem.W.nsIn K mainGlobals "bool" = some none)
    (zz_int : PySem.W.nsIn K mainGlobals "int" = some none)
    (zz_isinstance : PySem.W.nsIn K mainGlobals "isinstance" = some none)
    (zz_len : PySem.W.nsIn K mainGlobals "len" = some none)
    (zz_min : PySem.W.nsIn K mainGlobals "min" = some none)
    (zz_range : PySem.W.nsIn K mainGlobals "range" = some none) :
    ∃ fd : FuncData, (∀ (s : Shared) (v : Value), BindsTo s fd ⟨[v], []⟩ [("_law_script", v)]) ∧ ∀ base : Heap, K.In base → base.Ns mainGlobals mg → FnOk l.prog w K mg base CX0 5 fa fd ["_law_script"] (spL K S_law) := by
  subst e0
  subst e1
  subst e2
  subst e3
  subst e4
  subst e5
  subst e6
  subst e7
  subst e8
  subst e9
  subst e10
  subst e11
  have ef := hfa.symm.trans (PySem.W.mg_of X G a11)
  cases ef
  have F0 : FunD K "on" "on" (defArgs s_on) (defBody s_on) (defScope s_on) [] [("ring", ((.int 64) : V))] f0 _ := ⟨⟨_, _, _, _, _, _, _, _, _, _, rfl, l0, c0, Or.inl ⟨rfl, rfl⟩, Or.inr ⟨_, q0, fun q hq => by rw [List.mem_singleton] at hq; subst hq; exact ⟨_, q0_0, ⟨_, rfl⟩⟩⟩⟩, k0⟩
  have F1 : FunD K "steps" "steps" (defArgs s_steps) (defBody s_steps) (defScope s_steps) [] [("ring", ((.int 64) : V))] f1 _ := ⟨⟨_, _, _, _, _, _, _, _, _, _, rfl, l1, c1, Or.inl ⟨rfl, rfl⟩, Or.inr ⟨_, q1, fun q hq => by rw [List.mem_singleton] at hq; subst hq; exact ⟨_, q1_0, ⟨_, rfl⟩⟩⟩⟩, k1⟩
  have F2 : FunD K "_law_hand" "_law_hand" (defArgs s_law_hand) (defBody s_law_hand) (defScope s_law_hand) [] [] f2 _ := ⟨⟨_, _, _, _, _, _, _, _, _, _, rfl, l2, c2, Or.inl ⟨rfl, rfl⟩, Or.inl rfl⟩, k2⟩
  have F3 : FunD K "_law_take" "_law_take" (defArgs s_law_take) (defBody s_law_take) (defScope s_law_take) [] [] f3 _ := ⟨⟨_, _, _, _, _, _, _, _, _, _, rfl, l3, c3, Or.inl ⟨rfl, rfl⟩, Or.inl rfl⟩, k3⟩
  have F4 : FunD K "_law_of" "_law_of" (defArgs s_law_of) (defBody s_law_of) (defScope s_law_of) [] [] f4 _ := ⟨⟨_, _, _, _, _, _, _, _, _, _, rfl, l4, c4, Or.inl ⟨rfl, rfl⟩, Or.inl rfl⟩, k4⟩
  have F5 : FunD K "_law_size" "_law_size" (defArgs s_law_size) (defBody s_law_size) (defScope s_law_size) [] [] f5 _ := ⟨⟨_, _, _, _, _, _, _, _, _, _, rfl, l5, c5, Or.inl ⟨rfl, rfl⟩, Or.inl rfl⟩, k5⟩
  have F6 : FunD K "_law_gone" "_law_gone" (defArgs s_law_gone) (defBody s_law_gone) (defScope s_law_gone) [] [] f6 _ := ⟨⟨_, _, _, _, _, _, _, _, _, _, rfl, l6, c6, Or.inl ⟨rfl, rfl⟩, Or.inl rfl⟩, k6⟩
  have F7 : FunD K "_law_way" "_law_way" (defArgs s_law_way) (defBody s_law_way) (defScope s_law_way) [] [] f7 _ := ⟨⟨_, _, _, _, _, _, _, _, _, _, rfl, l7, c7, Or.inl ⟨rfl, rfl⟩, Or.inl rfl⟩, k7⟩
  have F8 : FunD K "_law_number" "_law_number" (defArgs s_law_number) (defBody s_law_number) (defScope s_law_number) [] [] f8 _ := ⟨⟨_, _, _, _, _, _, _, _, _, _, rfl, l8, c8, Or.inl ⟨rfl, rfl⟩, Or.inl rfl⟩, k8⟩
  have F9 : FunD K "_law_whole" "_law_whole" (defArgs s_law_whole) (defBody s_law_whole) (defScope s_law_whole) [] [] f9 _ := ⟨⟨_, _, _, _, _, _, _, _, _, _, rfl, l9, c9, Or.inl ⟨rfl, rfl⟩, Or.inl rfl⟩, k9⟩
  have F10 : FunD K "_law_right" "_law_right" (defArgs s_law_right) (defBody s_law_right) (defScope s_law_right) [] [] f10 _ := ⟨⟨_, _, _, _, _, _, _, _, _, _, rfl, l10, c10, Or.inl ⟨rfl, rfl⟩, Or.inl rfl⟩, k10⟩
  have F11 : FunD K "law" "law" (defArgs s_law) (defBody s_law) (defScope s_law) [] [] fa _ := ⟨⟨_, _, _, _, _, _, _, _, _, _, rfl, l11, c11, Or.inl ⟨rfl, rfl⟩, Or.inl rfl⟩, k11⟩
  have g_RING : ∃ u, mg "RING" = some u ∧ RelV (.int 64) u := ⟨_, PySem.W.mg_of X G gg_RING, ⟨_, rfl⟩⟩
  have g_STOP : ∃ u, mg "STOP" = some u ∧ RelV (.int 28) u := ⟨_, PySem.W.mg_of X G gg_STOP, ⟨_, rfl⟩⟩
  have g_WARN : ∃ u, mg "WARN" = some u ∧ RelV (.int 20) u := ⟨_, PySem.W.mg_of X G gg_WARN, ⟨_, rfl⟩⟩
  have z_abs := PySem.W.mg_none_of X G zz_abs
  have z_all := PySem.W.mg_none_of X G zz_all
  have z_bool := PySem.W.mg_none_of X G zz_bool
  have z_int := PySem.W.mg_none_of X G zz_int
  have z_isinstance := PySem.W.mg_none_of X G zz_isinstance
  have z_len := PySem.W.mg_none_of X G zz_len
  have z_min := PySem.W.mg_none_of X G zz_min
  have z_range := PySem.W.mg_none_of X G zz_range
  refine ⟨_, fun s v => F11.bindsA (ps := ["_law_script"]) (fun _ _ _ _ _ _ us hl => match us, hl with | [_], _ => rfl) s [v] rfl, fun base _ _ => ?_⟩
  have O0 := ok_on (P := l.prog) (w := w) (mg := mg) (base := base) F0
  obtain ⟨ds0, vd0, bd0⟩ := F0.binds0 (ps := ["number", "many", "ring"]) 2 (by decide) rfl (fun _ _ _ _ _ _ us ks h1 h2 => match us, ks, h1, h2 with | [_, _], [_], _, _ => ⟨_, _, _, _, _, _, rfl, rfl, rfl⟩)
  have C_on : CalP l.prog w K mg base 1 "on" [(.int 64)] S_on := ⟨_, _, _, _, _, O0, PySem.W.mg_of X G a0, k0, bd0, vd0, (.cons (fun _ _ _ => .int _) .nil)⟩
  have B_on_ring := F0.kbinds0 (ps := ["number", "many", "ring"]) 2 ["ring"] (fun us ws => us ++ ws) (fun us ws => us ++ ws) (fun _ _ _ _ _ _ us ws h1 h2 => match us, ws, h1, h2 with | [_, _], [_], _, _ => rfl) (fun a b => a.append b)
  have K_on_ring : CalK l.prog w K mg base 1 "on" 2 ["ring"] gK_on_ring S_on := ⟨_, _, _, _, _, O0, PySem.W.mg_of X G a0, k0, B_on_ring, fun R h H ms vs ns us a b _ _ => a.append b⟩
  have O1 := ok_steps (P := l.prog) (w := w) (mg := mg) (base := base) F1
  obtain ⟨ds1, vd1, bd1⟩ := F1.binds0 (ps := ["one", "other", "ring"]) 2 (by decide) rfl (fun _ _ _ _ _ _ us ks h1 h2 => match us, ks, h1, h2 with | [_, _], [_], _, _ => ⟨_, _, _, _, _, _, rfl, rfl, rfl⟩)
  have C_steps : CalP l.prog w K mg base 1 "steps" [(.int 64)] S_steps := ⟨_, _, _, _, _, O1, PySem.W.mg_of X G a1, k1, bd1, vd1, (.cons (fun _ _ _ => .int _) .nil)⟩
  have B_steps_ring := F1.kbinds0 (ps := ["one", "other", "ring"]) 2 ["ring"] (fun us ws => us ++ ws) (fun us ws => us ++ ws) (fun _ _ _ _ _ _ us ws h1 h2 => match us, ws, h1, h2 with | [_, _], [_], _, _ => rfl) (fun a b => a.append b)
  have K_steps_ring : CalK l.prog w K mg base 1 "steps" 2 ["ring"] gK_steps_ring S_steps := ⟨_, _, _, _, _, O1, PySem.W.mg_of X G a1, k1, B_steps_ring, fun R h H ms vs ns us a b _ _ => a.append b⟩
  have O2 := ok_law_hand (P := l.prog) (w := w) (mg := mg) (base := base) F2 z_abs z_int z_len
  have C_law_hand : CalP l.prog w K mg base 1 "_law_hand" [] S_law_hand := ⟨_, _, _, [], [], O2, PySem.W.mg_of X G a2, k2, F2.bindsN (fun _ _ _ _ _ _ us hl => match us, hl with | [_, _], _ => rfl), .nil, .nil⟩
  have O3 := ok_law_take (P := l.prog) (w := w) (mg := mg) (base := base) F3
  have C_law_take : CalP l.prog w K mg base 1 "_law_take" [] S_law_take := ⟨_, _, _, [], [], O3, PySem.W.mg_of X G a3, k3, F3.bindsN (fun _ _ _ _ _ _ us hl => match us, hl with | [_, _], _ => rfl), .nil, .nil⟩
  have O6 := ok_law_gone (P := l.prog) (w := w) (mg := mg) (base := base) F6
  have C_law_gone : CalP l.prog w K mg base 1 "_law_gone" [] S_law_gone := ⟨_, _, _, [], [], O6, PySem.W.mg_of X G a6, k6, F6.bindsN (fun _ _ _ _ _ _ us hl => match us, hl with | [_, _, _], _ => rfl), .nil, .nil⟩
  have O7 := ok_law_way (P := l.prog) (w := w) (mg := mg) (base := base) F7
  have C_law_way : CalP l.prog w K mg base 1 "_law_way" [] S_law_way := ⟨_, _, _, [], [], O7, PySem.W.mg_of X G a7, k7, F7.bindsN (fun _ _ _ _ _ _ us hl => match us, hl with | [_, _, _], _ => rfl), .nil, .nil⟩
  have O9 := ok_law_whole (P := l.prog) (w := w) (mg := mg) (base := base) F9 z_bool z_int z_isinstance
  have C_law_whole : CalP l.prog w K mg base 1 "_law_whole" [] S_law_whole := ⟨_, _, _, [], [], O9, PySem.W.mg_of X G a9, k9, F9.bindsN (fun _ _ _ _ _ _ us hl => match us, hl with | [_, _], _ => rfl), .nil, .nil⟩
  have O4 := ok_law_of (P := l.prog) (w := w) (mg := mg) (base := base) F4 C_law_take z_len
  have C_law_of : CalP l.prog w K mg base 2 "_law_of" [] S_law_of := ⟨_, _, _, [], [], O4, PySem.W.mg_of X G a4, k4, F4.bindsN (fun _ _ _ _ _ _ us hl => match us, hl with | [_, _], _ => rfl), .nil, .nil⟩
  have O5 := ok_law_size (P := l.prog) (w := w) (mg := mg) (base := base) F5 C_law_of C_law_take
  have C_law_size : CalP l.prog w K mg base 3 "_law_size" [] S_law_size := ⟨_, _, _, [], [], O5, PySem.W.mg_of X G a5, k5, F5.bindsN (fun _ _ _ _ _ _ us hl => match us, hl with | [_], _ => rfl), .nil, .nil⟩
  have O8 := ok_law_number (P := l.prog) (w := w) (mg := mg) (base := base) F8 C_law_of C_law_take
  have C_law_number : CalP l.prog w K mg base 3 "_law_number" [] S_law_number := ⟨_, _, _, [], [], O8, PySem.W.mg_of X G a8, k8, F8.bindsN (fun _ _ _ _ _ _ us hl => match us, hl with | [_, _], _ => rfl), .nil, .nil⟩
  have O10 := ok_law_right (P := l.prog) (w := w) (mg := mg) (base := base) F10 C_law_gone C_law_number C_law_of C_law_take C_law_way C_law_whole C_on C_steps K_on_ring K_steps_ring g_RING
  have C_law_right : CalP l.prog w K mg base 4 "_law_right" [] S_law_right := ⟨_, _, _, [], [], O10, PySem.W.mg_of X G a10, k10, F10.bindsN (fun _ _ _ _ _ _ us hl => match us, hl with | [_, _], _ => rfl), .nil, .nil⟩
  exact ok_law F11 C_law_hand C_law_right C_law_size g_RING g_STOP g_WARN z_all z_len z_min z_range
end L_k02
open PySem PySem.W PyProof.Rows
set_option maxHeartbeats 0 in
theorem PySem.Challenge.cw_roundstore_k02_on_and_steps_holds : PySem.Challenge.rw_roundstore_k02_on_and_steps.Holds := by
  w_on; o_law; k_head; (case hw => w_witness2)
  k_fill
  refine L2.walk_of (l := PySem.Challenge.rw_roundstore_k02_on_and_steps) (n := 63) (k := 5) (x := "_law_script") (CX := fun _ => L2.CX0) (sp := fun w => Rv.spL _ L_k02.S_law) rfl (by decide) rfl ⟨rfl, by decide, by decide⟩ (fun w h Y => PySem.W.kIn_of Y) ?F (fun _ _ a ns hl hO hS => Rv.law_start L_k02.S_law_holds hl hO hS) (fun _ _ _ _ _ h => h)
  case F =>
    intro w mg fa h KX G hmg
    refine' L_k02.all_mk KX G hmg ?a0 ?l0 ?c0 ?k0 ?e0 ?q0 ?q0_0 ?a1 ?l1 ?c1 ?k1 ?e1 ?q1 ?q1_0 ?a2 ?l2 ?c2 ?k2 ?e2 ?a3 ?l3 ?c3 ?k3 ?e3 ?a4 ?l4 ?c4 ?k4 ?e4 ?a5 ?l5 ?c5 ?k5 ?e5 ?a6 ?l6 ?c6 ?k6 ?e6 ?a7 ?l7 ?c7 ?k7 ?e7 ?a8 ?l8 ?c8 ?k8 ?e8 ?a9 ?l9 ?c9 ?k9 ?e9 ?a10 ?l10 ?c10 ?k10 ?e10 ?a11 ?l11 ?c11 ?k11 ?e11 ?gg_RING ?gg_STOP ?gg_WARN ?zz_abs ?zz_all ?zz_bool ?zz_int ?zz_isinstance ?zz_len ?zz_min ?zz_range
    (case a0 => k_is); (case l0 => k_is); (case c0 => k_is); (case k0 => k_is); (case e0 => rfl); (case q0 => rfl); (case q0_0 => k_is); (case a1 => k_is); (case l1 => k_is); (case c1 => k_is); (case k1 => k_is); (case e1 => rfl); (case q1 => rfl); (case q1_0 => k_is); (case a2 => k_is); (case l2 => k_is); (case c2 => k_is); (case k2 => k_is); (case e2 => rfl); (case a3 => k_is); (case l3 => k_is); (case c3 => k_is); (case k3 => k_is); (case e3 => rfl); (case a4 => k_is); (case l4 => k_is); (case c4 => k_is); (case k4 => k_is); (case e4 => rfl); (case a5 => k_is); (case l5 => k_is); (case c5 => k_is); (case k5 => k_is); (case e5 => rfl); (case a6 => k_is); (case l6 => k_is); (case c6 => k_is); (case k6 => k_is); (case e6 => rfl); (case a7 => k_is); (case l7 => k_is); (case c7 => k_is); (case k7 => k_is); (case e7 => rfl); (case a8 => k_is); (case l8 => k_is); (case c8 => k_is); (case k8 => k_is); (case e8 => rfl); (case a9 => k_is); (case l9 => k_is); (case c9 => k_is); (case k9 => k_is); (case e9 => rfl); (case a10 => k_is); (case l10 => k_is); (case c10 => k_is); (case k10 => k_is); (case e10 => rfl); (case a11 => k_is); (case l11 => k_is); (case c11 => k_is); (case k11 => k_is); (case e11 => rfl); (case gg_RING => k_is); (case gg_STOP => k_is); (case gg_WARN => k_is); (case zz_abs => k_is); (case zz_all => k_is); (case zz_bool => k_is); (case zz_int => k_is); (case zz_isinstance => k_is); (case zz_len => k_is); (case zz_min => k_is); (case zz_range => k_is)
