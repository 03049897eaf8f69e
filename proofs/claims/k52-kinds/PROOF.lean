import PyProof.Rows.All
import Wide.All
import OpenK.AllK
import Wide.FinOn
import HandS.ForMost
import HandS.ForExc
import HandS.ExcInit
import HandS.CallSlots
import HandS.Wide
import HandS.Style
import HandS.IsInst
import HandS.Comp
import HandS.Gcd
import HandS.ExcCtx
import HandS.HotCalls
import HandS.Defaults
import HandS.ExcField
import HandS.EndBits
import PySem.Challenge.RW_fewcarry_k52_kinds
set_option Elab.async false
set_option linter.all false
set_option maxRecDepth 100000
/-! DL1: values as trees (D), what lies mutable (Mu), and what a reading of the hand layer does to them. -/
namespace DL
open PySem PySem.Spec L2
open PyProof.Rows hiding St

inductive D where
  | non | bl (b : Bool) | int (i : Int) | str (x : Str) | ty (n : String) | ref (a : Addr)
  | tup (xs : List D) | lst (xs : List D) | dic (kvs : List (Key × D)) | ins (C : Addr) (ns : List Str) (ds : List D)
  /-- a caught exception: where it stands, its own dict, its class, its fields -/
  | exc (a : Addr) (dd : Option Addr) (C : Addr) (ns : List Str) (ds : List D)

/-- a mutable object that stands at an address -/
inductive MO where
  | lst (xs : List D) | dic (kvs : List (Key × D)) | ins (C : Addr) (ns : List Str) (ds : List D)
abbrev Mu := List (Addr × MO)
def dom (m : Mu) (a : Addr) : Prop := a ∈ m.map (·.1)
theorem dom_nil {a : Addr} : ¬ dom [] a := fun h => by simp [dom] at h
theorem dom_cons {m : Mu} {p : Addr × MO} {a : Addr} : dom (p :: m) a ↔ a = p.1 ∨ dom m a := by simp [dom]

mutual
inductive Rep (M : Addr → Prop) (H : Hp) : D → V → Prop
  | non : Rep M H .non .non
  | bl (b : Bool) : Rep M H (.bl b) (.bl b)
  | int (i : Int) : Rep M H (.int i) (.int i)
  | str (x : Str) : Rep M H (.str x) (.str x)
  | ty (n : String) : Rep M H (.ty n) (.ty n)
  | ref (a : Addr) : Rep M H (.ref a) (.ref a)
  | tup {a : Addr} {xs : List D} {vs : List V} (m : ¬ M a) (h : Rd H a (.tup vs)) (r : Reps M H xs vs) : Rep M H (.tup xs) (.ref a)
  | lst {a : Addr} {xs : List D} {vs : List V} (m : ¬ M a) (h : Rd H a (.lst vs)) (r : Reps M H xs vs) : Rep M H (.lst xs) (.ref a)
  | dic {a : Addr} {kvs : List (Key × D)} {kws : List (Key × V)} (m : ¬ M a) (h : H a = some (.dK kws)) (r : RepK M H kvs kws) : Rep M H (.dic kvs) (.ref a)
  | ins {a C dx : Addr} {ns : List Str} {ds : List D} {gs : List (Str × V)} (m : ¬ M a) (h : H a = some (.ins C dx gs)) (r : RepF M H ns ds gs) : Rep M H (.ins C ns ds) (.ref a)
  | excN {a C : Addr} : Rep M H (.exc a none C [] []) (.ref a)
  | excS {a d C : Addr} {ns : List Str} {ds : List D} {gs : List (Str × V)} (m : ¬ M d) (h : H d = some (.xd gs)) (r : RepF M H ns ds gs) : Rep M H (.exc a (some d) C ns ds) (.ref a)
inductive Reps (M : Addr → Prop) (H : Hp) : List D → List V → Prop
  | nil : Reps M H [] []
  | cons {d : D} {v : V} {ds : List D} {vs : List V} (r : Rep M H d v) (t : Reps M H ds vs) : Reps M H (d :: ds) (v :: vs)
inductive RepK (M : Addr → Prop) (H : Hp) : List (Key × D) → List (Key × V) → Prop
  | nil : RepK M H [] []
  | cons {k : Key} {d : D} {v : V} {ds : List (Key × D)} {vs : List (Key × V)} (r : Rep M H d v) (t : RepK M H ds vs) : RepK M H ((k, d) :: ds) ((k, v) :: vs)
inductive RepF (M : Addr → Prop) (H : Hp) : List Str → List D → List (Str × V) → Prop
  | nil : RepF M H [] [] []
  | cons {n : Str} {d : D} {v : V} {ns : List Str} {ds : List D} {vs : List (Str × V)} (r : Rep M H d v) (t : RepF M H ns ds vs) : RepF M H (n :: ns) (d :: ds) ((n, v) :: vs)
end

/-- from M, H to M', H': what was fixed is fixed and as it was -/
def Stp (M : Addr → Prop) (H : Hp) (M' : Addr → Prop) (H' : Hp) : Prop := ∀ a o, H a = some o → ¬ M a → H' a = some o ∧ ¬ M' a
theorem Stp.refl (M : Addr → Prop) (H : Hp) : Stp M H M H := fun _ _ h m => ⟨h, m⟩
theorem Stp.trans {M M1 M2 : Addr → Prop} {H H1 H2 : Hp} (a : Stp M H M1 H1) (b : Stp M1 H1 M2 H2) : Stp M H M2 H2 := fun x o h m => b x o (a x o h m).1 (a x o h m).2
theorem Stp.rd {M M' : Addr → Prop} {H H' : Hp} (s : Stp M H M' H') {a : Addr} {u : HO} (m : ¬ M a) (h : Rd H a u) : Rd H' a u ∧ ¬ M' a := by
  rcases h with h | ⟨o, h⟩
  · exact ⟨.inl (s a _ h m).1, (s a _ h m).2⟩
  · exact ⟨.inr ⟨o, (s a _ h m).1⟩, (s a _ h m).2⟩
/-- a new object is laid (fixed) -/
theorem Stp.new {M : Addr → Prop} {H : Hp} {p : Addr} {o : HO} (n : H p = none) : Stp M H M (upd H p o) := fun a u h m => ⟨by rw [upd_ne (ne_of_none h n)]; exact h, m⟩
/-- .. mutable -/
theorem Stp.newM {m : Mu} {H : Hp} {p : Addr} {o : HO} {x : MO} (n : H p = none) : Stp (dom m) H (dom ((p, x) :: m)) (upd H p o) := fun a u h k =>
  ⟨by rw [upd_ne (ne_of_none h n)]; exact h, fun z => (dom_cons.mp z).elim (ne_of_none h n) k⟩
/-- a mutable one is written -/
theorem Stp.wr {m m' : Mu} {H : Hp} {p : Addr} {o : HO} (hp : dom m p) (hd : ∀ a, dom m' a → dom m a) : Stp (dom m) H (dom m') (upd H p o) := fun a u h k =>
  ⟨by rw [upd_ne (fun e => k (by rw [e]; exact hp))]; exact h, fun z => k (hd a z)⟩
theorem Stp.less {M M' : Addr → Prop} {H : Hp} (h : ∀ a, M' a → M a) : Stp M H M' H := fun a _ e m => ⟨e, fun z => m (h a z)⟩

mutual
theorem Rep.mono {M M' : Addr → Prop} {H H' : Hp} (s : Stp M H M' H') : ∀ {d : D} {v : V}, Rep M H d v → Rep M' H' d v
  | _, _, .non => .non
  | _, _, .bl b => .bl b
  | _, _, .int i => .int i
  | _, _, .str x => .str x
  | _, _, .ty n => .ty n
  | _, _, .ref a => .ref a
  | _, _, .tup m h r => .tup (s.rd m h).2 (s.rd m h).1 (Reps.mono s r)
  | _, _, .lst m h r => .lst (s.rd m h).2 (s.rd m h).1 (Reps.mono s r)
  | _, _, .dic m h r => .dic (s _ _ h m).2 (s _ _ h m).1 (RepK.mono s r)
  | _, _, .ins m h r => .ins (s _ _ h m).2 (s _ _ h m).1 (RepF.mono s r)
  | _, _, .excN => .excN
  | _, _, .excS m h r => .excS (s _ _ h m).2 (s _ _ h m).1 (RepF.mono s r)
theorem Reps.mono {M M' : Addr → Prop} {H H' : Hp} (s : Stp M H M' H') : ∀ {d : List D} {v : List V}, Reps M H d v → Reps M' H' d v
  | _, _, .nil => .nil
  | _, _, .cons r t => .cons (Rep.mono s r) (Reps.mono s t)
theorem RepK.mono {M M' : Addr → Prop} {H H' : Hp} (s : Stp M H M' H') : ∀ {d : List (Key × D)} {v : List (Key × V)}, RepK M H d v → RepK M' H' d v
  | _, _, .nil => .nil
  | _, _, .cons r t => .cons (Rep.mono s r) (RepK.mono s t)
theorem RepF.mono {M M' : Addr → Prop} {H H' : Hp} (s : Stp M H M' H') : ∀ {n : List Str} {d : List D} {v : List (Str × V)}, RepF M H n d v → RepF M' H' n d v
  | _, _, _, .nil => .nil
  | _, _, _, .cons r t => .cons (Rep.mono s r) (RepF.mono s t)
end

theorem Reps.length {M : Addr → Prop} {H : Hp} : ∀ {d : List D} {v : List V}, Reps M H d v → d.length = v.length
  | _, _, .nil => rfl
  | _, _, .cons _ t => congrArg (· + 1) (Reps.length t)
theorem Reps.get {M : Addr → Prop} {H : Hp} : ∀ {d : List D} {v : List V} {i : Nat} {x : D}, Reps M H d v → d[i]? = some x → ∃ y, v[i]? = some y ∧ Rep M H x y
  | _, _, _, _, .nil, e => by simp at e
  | _, _, 0, _, .cons r _, e => by simp at e; subst e; exact ⟨_, rfl, r⟩
  | _, _, i + 1, x, .cons _ t, e => by
    obtain ⟨y, h1, h2⟩ := Reps.get (i := i) (x := x) t (by simpa using e)
    exact ⟨y, by simpa using h1, h2⟩
theorem Reps.getV {M : Addr → Prop} {H : Hp} : ∀ {d : List D} {v : List V} {i : Nat} {y : V}, Reps M H d v → v[i]? = some y → ∃ x, d[i]? = some x ∧ Rep M H x y
  | _, _, _, _, .nil, e => by simp at e
  | _, _, 0, _, .cons r _, e => by simp at e; subst e; exact ⟨_, rfl, r⟩
  | _, _, i + 1, y, .cons _ t, e => by
    obtain ⟨x, h1, h2⟩ := Reps.getV (i := i) (y := y) t (by simpa using e)
    exact ⟨x, by simpa using h1, h2⟩
theorem Reps.append {M : Addr → Prop} {H : Hp} : ∀ {d d' : List D} {v v' : List V}, Reps M H d v → Reps M H d' v' → Reps M H (d ++ d') (v ++ v')
  | _, _, _, _, .nil, h => h
  | _, _, _, _, .cons r t, h => .cons r (Reps.append t h)
theorem Reps.set {M : Addr → Prop} {H : Hp} {x : D} {y : V} (q : Rep M H x y) : ∀ {d : List D} {v : List V} (i : Nat), Reps M H d v → Reps M H (d.set i x) (v.set i y)
  | _, _, _, .nil => .nil
  | _, _, 0, .cons _ t => .cons q t
  | _, _, i + 1, .cons r t => .cons r (Reps.set q i t)
theorem Reps.drop {M : Addr → Prop} {H : Hp} : ∀ {d : List D} {v : List V} (n : Nat), Reps M H d v → Reps M H (d.drop n) (v.drop n)
  | _, _, 0, h => h
  | _, _, _ + 1, .nil => .nil
  | _, _, n + 1, .cons _ t => Reps.drop n t
theorem Reps.take {M : Addr → Prop} {H : Hp} : ∀ {d : List D} {v : List V} (n : Nat), Reps M H d v → Reps M H (d.take n) (v.take n)
  | _, _, 0, _ => .nil
  | _, _, _ + 1, .nil => .nil
  | _, _, n + 1, .cons r t => .cons r (Reps.take n t)
theorem Reps.ints {M : Addr → Prop} {H : Hp} : ∀ (l : List Int), Reps M H (l.map D.int) (l.map V.int)
  | [] => .nil
  | i :: l => .cons (.int i) (Reps.ints l)
theorem RepF.names {M : Addr → Prop} {H : Hp} : ∀ {n : List Str} {d : List D} {v : List (Str × V)}, RepF M H n d v → v.map (·.1) = n
  | _, _, _, .nil => rfl
  | _, _, _, .cons _ t => congrArg (_ :: ·) (RepF.names t)
/-- the place of a field -/
def fix (f : Str) : List Str → List D → Option D
  | n :: ns, d :: ds => if f = n then some d else fix f ns ds
  | _, _ => none
theorem RepF.look {M : Addr → Prop} {H : Hp} {f : Str} {x : D} : ∀ {n : List Str} {d : List D} {v : List (Str × V)}, RepF M H n d v → fix f n d = some x → ∃ y, v.lookup f = some y ∧ Rep M H x y
  | _, _, _, .nil, e => by simp [fix] at e
  | n :: ns, d :: ds, (_, v) :: vs, .cons r t, e => by
    unfold fix at e
    rw [lookup_put]
    by_cases h : f = n
    · rw [if_pos h] at e ⊢
      cases e
      exact ⟨v, rfl, r⟩
    · rw [if_neg h] at e ⊢
      exact RepF.look t e
theorem lookup_none {f : Str} : ∀ {v : List (Str × V)}, f ∉ v.map (·.1) → v.lookup f = none
  | [], _ => rfl
  | (n, v) :: vs, h => by
    rw [lookup_put, if_neg (fun e => h (by simp [e]))]
    exact lookup_none (fun z => h (by simp [z]))
theorem RepF.no {M : Addr → Prop} {H : Hp} {f : Str} {n : List Str} {d : List D} {v : List (Str × V)} (r : RepF M H n d v) (h : n.contains f = false) : v.lookup f = none :=
  lookup_none fun z => by
    rw [r.names] at z
    rw [List.contains_iff_mem.mpr z] at h
    cases h

/-! ### the mutable part -/
inductive MRep (M : Addr → Prop) (H : Hp) (a : Addr) : MO → Prop
  | lst {xs : List D} {vs : List V} (h : H a = some (.lst vs)) (r : Reps M H xs vs) : MRep M H a (.lst xs)
  | dic {kvs : List (Key × D)} {kws : List (Key × V)} (h : H a = some (.dK kws)) (r : RepK M H kvs kws) : MRep M H a (.dic kvs)
  | ins {C dx : Addr} {ns : List Str} {ds : List D} {gs : List (Str × V)} (h : H a = some (.ins C dx gs)) (r : RepF M H ns ds gs) : MRep M H a (.ins C ns ds)
structure MutR (m : Mu) (H : Hp) : Prop where
  nd : (m.map (·.1)).Nodup
  at_ : ∀ p ∈ m, MRep (dom m) H p.1 p.2
theorem MRep.there {M : Addr → Prop} {H : Hp} {a : Addr} {o : MO} (r : MRep M H a o) : ∃ u, H a = some u := by
  cases r with
  | lst h _ => exact ⟨_, h⟩
  | dic h _ => exact ⟨_, h⟩
  | ins h _ => exact ⟨_, h⟩
theorem MRep.mono {M M' : Addr → Prop} {H H' : Hp} {a : Addr} {o : MO} (s : Stp M H M' H') (k : ∀ u, H a = some u → H' a = some u) (r : MRep M H a o) : MRep M' H' a o := by
  cases r with
  | lst h r => exact .lst (k _ h) (r.mono s)
  | dic h r => exact .dic (k _ h) (r.mono s)
  | ins h r => exact .ins (k _ h) (r.mono s)
theorem MutR.nil (H : Hp) : MutR [] H := ⟨List.nodup_nil, fun _ h => by cases h⟩
theorem MutR.there {m : Mu} {H : Hp} (r : MutR m H) {a : Addr} (h : dom m a) : ∃ u, H a = some u := by
  obtain ⟨p, hp, e⟩ := List.mem_map.mp h
  subst e
  exact (r.at_ p hp).there
/-- a new fixed object -/
theorem MutR.new {m : Mu} {H : Hp} {p : Addr} {o : HO} (r : MutR m H) (n : H p = none) : MutR m (upd H p o) :=
  ⟨r.nd, fun q hq => (r.at_ q hq).mono (Stp.new n) fun u e => by rw [upd_ne (ne_of_none e n)]; exact e⟩
/-- a new mutable object -/
theorem MutR.newM {m : Mu} {H : Hp} {p : Addr} {o : HO} {x : MO} (r : MutR m H) (n : H p = none) (h : MRep (dom ((p, x) :: m)) (upd H p o) p x) : MutR ((p, x) :: m) (upd H p o) := by
  refine ⟨List.nodup_cons.mpr ⟨fun z => ?_, r.nd⟩, fun q hq => ?_⟩
  · obtain ⟨u, e⟩ := r.there (a := p) z
    rw [n] at e
    cases e
  · rcases List.mem_cons.mp hq with e | hq
    · subst e; exact h
    · exact (r.at_ q hq).mono (Stp.newM n) fun u e => by rw [upd_ne (ne_of_none e n)]; exact e
inductive At : Mu → Addr → MO → Prop
  | head {m : Mu} {p : Addr} {o : MO} : At ((p, o) :: m) p o
  | tail {m : Mu} {p : Addr} {o : MO} {q : Addr × MO} (h : At m p o) : At (q :: m) p o
inductive Put : Mu → Addr → MO → Mu → Prop
  | head {m : Mu} {p : Addr} {o u : MO} : Put ((p, o) :: m) p u ((p, u) :: m)
  | tail {m m' : Mu} {p : Addr} {u : MO} {q : Addr × MO} (h : Put m p u m') : Put (q :: m) p u (q :: m')
theorem At.mem {m : Mu} {p : Addr} {o : MO} (h : At m p o) : (p, o) ∈ m := by
  induction h with
  | head => exact List.mem_cons_self ..
  | tail _ ih => exact List.mem_cons_of_mem _ ih
theorem At.dom {m : Mu} {p : Addr} {o : MO} (h : At m p o) : dom m p := List.mem_map.mpr ⟨_, h.mem, rfl⟩
theorem At.rep {m : Mu} {p : Addr} {o : MO} {H : Hp} (h : At m p o) (r : MutR m H) : MRep (DL.dom m) H p o := r.at_ _ h.mem
theorem Put.keys {m m' : Mu} {p : Addr} {u : MO} (h : Put m p u m') : m'.map (·.1) = m.map (·.1) := by
  induction h with
  | head => rfl
  | tail _ ih => simp [ih]
theorem Put.dom {m m' : Mu} {p : Addr} {u : MO} (h : Put m p u m') : dom m' = dom m := by
  funext a
  unfold DL.dom
  rw [h.keys]
theorem Put.has {m m' : Mu} {p : Addr} {u : MO} (h : Put m p u m') : DL.dom m p := by
  induction h with
  | head => exact dom_cons.mpr (.inl rfl)
  | tail _ ih => exact dom_cons.mpr (.inr ih)
theorem Put.mem {m m' : Mu} {p : Addr} {u : MO} (h : Put m p u m') (nd : (m.map (·.1)).Nodup) : ∀ q ∈ m', (q = (p, u)) ∨ (q ∈ m ∧ q.1 ≠ p) := by
  induction h with
  | head =>
    intro q hq
    rcases List.mem_cons.mp hq with e | hq
    · exact .inl e
    · refine .inr ⟨List.mem_cons_of_mem _ hq, fun e => ?_⟩
      exact (List.nodup_cons.mp nd).1 (List.mem_map.mpr ⟨q, hq, e⟩)
  | tail h ih =>
    intro q hq
    rcases List.mem_cons.mp hq with e | hq
    · subst e
      refine .inr ⟨List.mem_cons_self .., fun e => ?_⟩
      have z := h.has
      rw [← e] at z
      exact (List.nodup_cons.mp nd).1 z
    · rcases ih (List.nodup_cons.mp nd).2 q hq with e | ⟨a, b⟩
      · exact .inl e
      · exact .inr ⟨List.mem_cons_of_mem _ a, b⟩
/-- a mutable object is written -/
theorem Put.stp {m m' : Mu} {p : Addr} {u : MO} {H : Hp} {o : HO} (h : Put m p u m') : Stp (DL.dom m) H (DL.dom m') (upd H p o) := Stp.wr h.has (fun a z => by rw [h.dom] at z; exact z)
theorem Put.mut {m m' : Mu} {p : Addr} {u : MO} {H : Hp} {o : HO} (h : Put m p u m') (r : MutR m H) (n : MRep (DL.dom m') (upd H p o) p u) : MutR m' (upd H p o) := by
  refine ⟨by rw [h.keys]; exact r.nd, fun q hq => ?_⟩
  rcases h.mem r.nd q hq with e | ⟨a, b⟩
  · subst e; exact n
  · exact (r.at_ q a).mono h.stp fun v e => by rw [upd_ne b]; exact e
/-- the newest mutable object is let go (it stays as it is) -/
theorem MutR.drop {m : Mu} {p : Addr × MO} {H : Hp} (r : MutR (p :: m) H) : MutR m H :=
  ⟨(List.nodup_cons.mp r.nd).2, fun q hq => (r.at_ q (List.mem_cons_of_mem _ hq)).mono (Stp.less fun a z => dom_cons.mpr (.inr z)) fun _ e => e⟩
theorem MutR.notin {m : Mu} {p : Addr × MO} {H : Hp} (r : MutR (p :: m) H) : ¬ dom m p.1 := (List.nodup_cons.mp r.nd).1

/-! ### frames -/
abbrev Rho := List (Option D)
inductive RO (M : Addr → Prop) (H : Hp) : Option D → Option V → Prop
  | none (v : Option V) : RO M H none v
  | some {d : D} {v : V} (r : Rep M H d v) : RO M H (some d) (some v)
inductive ROs (M : Addr → Prop) (H : Hp) : Rho → St → Prop
  | nil : ROs M H [] []
  | cons {d : Option D} {v : Option V} {ds : Rho} {vs : St} (r : RO M H d v) (t : ROs M H ds vs) : ROs M H (d :: ds) (v :: vs)
theorem RO.mono {M M' : Addr → Prop} {H H' : Hp} (s : Stp M H M' H') {d : Option D} {v : Option V} : RO M H d v → RO M' H' d v
  | .none v => .none v
  | .some r => .some (r.mono s)
theorem ROs.mono {M M' : Addr → Prop} {H H' : Hp} (s : Stp M H M' H') : ∀ {d : Rho} {v : St}, ROs M H d v → ROs M' H' d v
  | _, _, .nil => .nil
  | _, _, .cons r t => .cons (r.mono s) (ROs.mono s t)
theorem ROs.get {M : Addr → Prop} {H : Hp} : ∀ {d : Rho} {v : St} {i : Nat} {x : D}, ROs M H d v → d[i]? = some (some x) → ∃ y, v[i]? = some (some y) ∧ Rep M H x y
  | _, _, _, _, .nil, e => by simp at e
  | _, _, 0, _, .cons r _, e => by
    simp at e
    subst e
    cases r with
    | some r => exact ⟨_, rfl, r⟩
  | _, _, i + 1, x, .cons _ t, e => by
    obtain ⟨y, h1, h2⟩ := ROs.get (i := i) (x := x) t (by simpa using e)
    exact ⟨y, by simpa using h1, h2⟩
theorem ROs.set {M : Addr → Prop} {H : Hp} {x : Option D} {y : Option V} (q : RO M H x y) : ∀ {d : Rho} {v : St} (i : Nat), ROs M H d v → ROs M H (d.set i x) (v.set i y)
  | _, _, _, .nil => .nil
  | _, _, 0, .cons _ t => .cons q t
  | _, _, i + 1, .cons r t => .cons r (ROs.set q i t)
theorem ROs.start {M : Addr → Prop} {H : Hp} (k : Nat) : ∀ {ds : List D} {vs : List V}, Reps M H ds vs → ROs M H (ds.map some ++ List.replicate k none) (vs.map some ++ List.replicate k none)
  | _, _, .nil => by
    induction k with
    | zero => exact .nil
    | succ k ih => exact .cons (.none _) ih
  | _, _, .cons r t => .cons (.some r) (ROs.start k t)
structure EnvR (r : Rho) (m : Mu) (s : St) (H : Hp) : Prop where
  env : ROs (dom m) H r s
  mu : MutR m H
/-- forgetting what slots hold -/
inductive Le : Rho → Rho → Prop
  | nil : Le [] []
  | keep {d : Option D} {r r' : Rho} (t : Le r r') : Le (d :: r) (d :: r')
  | lose {d : Option D} {r r' : Rho} (t : Le r r') : Le (d :: r) (none :: r')
theorem ROs.le {M : Addr → Prop} {H : Hp} : ∀ {r r' : Rho} {v : St}, Le r r' → ROs M H r v → ROs M H r' v
  | _, _, _, .nil, h => h
  | _, _, _, .keep t, .cons a b => .cons a (ROs.le t b)
  | _, _, _, .lose t, .cons _ b => .cons (.none _) (ROs.le t b)

/-! ### exceptions -/
structure Ex where
  C : Addr
  ns : List Str
  ds : List D
def RepX (M : Addr → Prop) (H : Hp) (x : Ex) (cls : Value) (dd : Option Addr) : Prop :=
  cls = .ref x.C ∧ ((dd = none ∧ x.ns = [] ∧ x.ds = []) ∨ ∃ d gs, dd = some d ∧ H d = some (.xd gs) ∧ ¬ M d ∧ RepF M H x.ns x.ds gs)
theorem RepX.mono {M M' : Addr → Prop} {H H' : Hp} (s : Stp M H M' H') {x : Ex} {cls : Value} {dd : Option Addr} (h : RepX M H x cls dd) : RepX M' H' x cls dd := by
  obtain ⟨e, h⟩ := h
  refine ⟨e, ?_⟩
  rcases h with h | ⟨d, gs, h1, h2, h3, h4⟩
  · exact .inl h
  · exact .inr ⟨d, gs, h1, (s _ _ h2 h3).1, (s _ _ h2 h3).2, h4.mono s⟩

/-! ### what is wanted -/
abbrev KT := D → Mu → Prop
abbrev ET := Ex → Rho → Mu → Prop
def Go (m : Mu) (H : Hp) (K : KT) (Q : VK) : Prop := ∀ d m' v H', Stp (dom m) H (dom m') H' → MutR m' H' → Rep (dom m') H' d v → K d m' → Q v H'
def GoT (m : Mu) (H : Hp) (K : Bool → Mu → Prop) (Q : Bool → Hp → Prop) : Prop := ∀ b m' H', Stp (dom m) H (dom m') H' → MutR m' H' → K b m' → Q b H'
def GoA (m : Mu) (H : Hp) (K : List D → Mu → Prop) (Q : List V → Hp → Prop) : Prop := ∀ ds m' vs H', Stp (dom m) H (dom m') H' → MutR m' H' → Reps (dom m') H' ds vs → K ds m' → Q vs H'
/-- what is wanted of exceptions, at the frame's slots -/
def Rz (W : WX) (E : ET) (m : Mu) (H : Hp) : Prop := ∀ x r' m' cls dd s' H', Stp (dom m) H (dom m') H' → EnvR r' m' s' H' → RepX (dom m') H' x cls dd → E x r' m' → W cls dd s' H'
theorem Rz.step {W : WX} {E : ET} {m m1 : Mu} {H H1 : Hp} (z : Rz W E m H) (s : Stp (dom m) H (dom m1) H1) : Rz W E m1 H1 := fun x r' m' cls dd s' H' a b c e => z x r' m' cls dd s' H' (s.trans a) b c e
theorem Go.step {m m1 : Mu} {H H1 : Hp} {K : KT} {Q : VK} (g : Go m H K Q) (s : Stp (dom m) H (dom m1) H1) : Go m1 H1 K Q := fun d m' v H' a b c e => g d m' v H' (s.trans a) b c e

def We (W : WX) (E : ET) (t : TE) (r : Rho) (m : Mu) (K : KT) : Prop := ∀ s H Q, EnvR r m s H → Rz W E m H → Go m H K Q → t s H Q
def Wt (W : WX) (E : ET) (t : TT) (r : Rho) (m : Mu) (K : Bool → Mu → Prop) : Prop := ∀ s H Q, EnvR r m s H → Rz W E m H → GoT m H K Q → t s H Q
def Wa (W : WX) (E : ET) (t : TA) (r : Rho) (m : Mu) (K : List D → Mu → Prop) : Prop := ∀ s H Q, EnvR r m s H → Rz W E m H → GoA m H K Q → t s H Q
structure DEnds where
  nx : Rho → Mu → Prop
  rt : KT
  bk : Rho → Mu → Prop := fun _ _ => False
  ct : Rho → Mu → Prop := fun _ _ => False
structure GoS (m : Mu) (H : Hp) (P : DEnds) (De : Ends) : Prop where
  nx : ∀ r' m' s' H', Stp (dom m) H (dom m') H' → EnvR r' m' s' H' → P.nx r' m' → De.nx s' H'
  rt : ∀ d m' v H', Stp (dom m) H (dom m') H' → MutR m' H' → Rep (dom m') H' d v → P.rt d m' → De.rt v H'
  bk : ∀ r' m' s' H', Stp (dom m) H (dom m') H' → EnvR r' m' s' H' → P.bk r' m' → De.bk s' H'
  ct : ∀ r' m' s' H', Stp (dom m) H (dom m') H' → EnvR r' m' s' H' → P.ct r' m' → De.ct s' H'
theorem GoS.step {m m1 : Mu} {H H1 : Hp} {P : DEnds} {De : Ends} (g : GoS m H P De) (s : Stp (dom m) H (dom m1) H1) : GoS m1 H1 P De :=
  ⟨fun r' m' s' H' a => g.nx r' m' s' H' (s.trans a), fun d m' v H' a => g.rt d m' v H' (s.trans a), fun r' m' s' H' a => g.bk r' m' s' H' (s.trans a), fun r' m' s' H' a => g.ct r' m' s' H' (s.trans a)⟩
def Ws (W : WX) (E : ET) (t : TS) (r : Rho) (m : Mu) (P : DEnds) : Prop := ∀ s H De, EnvR r m s H → Rz W E m H → GoS m H P De → t De s H

section
variable {W : WX} {E : ET} {r : Rho} {m : Mu} {K : KT} {te ta tb tc : TE} {t u : TT} {a : TA} {P : DEnds} {ts tu : TS}
theorem EnvR.step {s : St} {H H1 : Hp} {m1 : Mu} (e : EnvR r m s H) (st : Stp (dom m) H (dom m1) H1) (mu : MutR m1 H1) : EnvR r m1 s H1 := ⟨e.env.mono st, mu⟩
/-- weaker wants -/
theorem We.imp {K' : KT} (h : We W E te r m K) (k : ∀ d m', K d m' → K' d m') : We W E te r m K' := fun s H Q e z g => h s H Q e z fun d m' v H' a b c x => g d m' v H' a b c (k d m' x)
theorem we_var {i : Nat} {d : D} (h : r[i]? = some (some d)) (k : K d m) : We W E (tVar i) r m K := fun s H Q e z g => by
  obtain ⟨v, h1, h2⟩ := e.env.get h
  exact ⟨v, h1, g d m v H (Stp.refl _ _) e.mu h2 k⟩
theorem we_cint {i : Int} (k : K (.int i) m) : We W E (tC (.int i)) r m K := fun s H Q e z g => g _ m _ H (Stp.refl _ _) e.mu (.int i) k
theorem we_cbl {b : Bool} (k : K (.bl b) m) : We W E (tC (.bl b)) r m K := fun s H Q e z g => g _ m _ H (Stp.refl _ _) e.mu (.bl b) k
theorem we_cnon (k : K .non m) : We W E (tC .non) r m K := fun s H Q e z g => g _ m _ H (Stp.refl _ _) e.mu .non k
theorem we_cstr {x : Str} (k : K (.str x) m) : We W E (tC (.str x)) r m K := fun s H Q e z g => g _ m _ H (Stp.refl _ _) e.mu (.str x) k
theorem we_cty {n : String} (k : K (.ty n) m) : We W E (tC (.ty n)) r m K := fun s H Q e z g => g _ m _ H (Stp.refl _ _) e.mu (.ty n) k
theorem we_cref {p : Addr} (k : K (.ref p) m) : We W E (tC (.ref p)) r m K := fun s H Q e z g => g _ m _ H (Stp.refl _ _) e.mu (.ref p) k

/-- an operation on values, at the frame's slots -/
abbrev O2 := V → V → St → Hp → VK → Prop
abbrev O1 := V → St → Hp → VK → Prop
def W2 (W : WX) (E : ET) (o : O2) (x y : D) (r : Rho) (m : Mu) (K : KT) : Prop := ∀ s H Q v w, EnvR r m s H → Rz W E m H → Rep (dom m) H x v → Rep (dom m) H y w → Go m H K Q → o v w s H Q
def W1 (W : WX) (E : ET) (o : O1) (x : D) (r : Rho) (m : Mu) (K : KT) : Prop := ∀ s H Q v, EnvR r m s H → Rz W E m H → Rep (dom m) H x v → Go m H K Q → o v s H Q
def t2 (o : O2) (ta tb : TE) : TE := fun s H Q => ta s H fun x H1 => tb s H1 fun y H2 => o x y s H2 Q
def t1 (o : O1) (ta : TE) : TE := fun s H Q => ta s H fun x H1 => o x s H1 Q
theorem we_2 {o : O2} (h : We W E ta r m fun x m1 => We W E tb r m1 fun y m2 => W2 W E o x y r m2 K) : We W E (t2 o ta tb) r m K := fun s H Q e z g =>
  h s H _ e z fun x m1 v H1 s1 mu1 r1 h1 => h1 s H1 _ (e.step s1 mu1) (z.step s1) fun y m2 w H2 s2 mu2 r2 h2 =>
    h2 s H2 Q v w ((e.step s1 mu1).step s2 mu2) ((z.step s1).step s2) (r1.mono s2) r2 ((g.step s1).step s2)
theorem we_1 {o : O1} (h : We W E ta r m fun x m1 => W1 W E o x r m1 K) : We W E (t1 o ta) r m K := fun s H Q e z g =>
  h s H _ e z fun x m1 v H1 s1 mu1 r1 h1 => h1 s H1 Q v (e.step s1 mu1) (z.step s1) r1 (g.step s1)

end
end DL
set_option Elab.async false
set_option linter.all false
set_option maxRecDepth 100000
/-! DL2: rules without types (an operation's reading is the union of what it can be), and what they do to values as trees. -/
namespace DL
open PySem PySem.Spec L2
open PyProof.Rows hiding St

/-! ### operations at the frame's slots -/
def OpS (X : Cx) (f : Value → Value → Sem Value) (o : O2) : Prop :=
  ∀ (pins : List (Addr × Obj)) (s : Shared) (σ : L2.St) (H : Hp) (x y : V) (u v : Value) (Q : VK), Inv X pins σ H s → RelV x u → RelV y v → o x y σ H Q → wpAny (model X.prog X.w) X.A (f u v) (EP X pins σ Q) X.xe s
def UnS (X : Cx) (f : Value → Sem Value) (o : O1) : Prop :=
  ∀ (pins : List (Addr × Obj)) (s : Shared) (σ : L2.St) (H : Hp) (x : V) (u : Value) (Q : VK), Inv X pins σ H s → RelV x u → o x σ H Q → wpAny (model X.prog X.w) X.A (f u) (EP X pins σ Q) X.xe s
abbrev OC := List V → L2.St → Hp → VK → Prop
def CallS (X : Cx) (f : Value) (o : OC) : Prop :=
  ∀ (pins : List (Addr × Obj)) (s : Shared) (σ : L2.St) (H : Hp) (xs : List V) (us : List Value) (Q : VK), Inv X pins σ H s → Vals xs us → o xs σ H Q → wpAny (model X.prog X.w) X.A (call f us) (EP X pins σ Q) X.xe s
def tC2 (o : OC) (t : TA) : TE := fun σ H Q => t σ H fun vs H1 => o vs σ H1 Q
section
variable {X : Cx} {op : Operator} {cop cop' : CmpOp} {uop : UnaryOp} {o o' : O2} {o1 o1' : O1} {oc oc' : OC} {a b c e : Expr} {es : List Expr} {ta tb tc : TE} {t : TA} {pos p : Pos} {f : Value → Value → Sem Value} {f1 : Value → Sem Value} {fv : Value} {x : Str} {T id : String}
theorem OpS.of {r : R2} (h : OpR X f r) : OpS X f (fun x y _ H Q => r x y H Q) := fun pins s σ H x y u v Q I ru rv q => h pins s σ H x y u v Q I ru rv q
theorem OpS.or (h : OpS X f o) (h' : OpS X f o') : OpS X f (fun x y s H Q => o x y s H Q ∨ o' x y s H Q) := fun pins s σ H x y u v Q I ru rv q => q.elim (h pins s σ H x y u v Q I ru rv) (h' pins s σ H x y u v Q I ru rv)
theorem UnS.of {r : V → Hp → VK → Prop} (h : UnR X f1 r) : UnS X f1 (fun x _ H Q => r x H Q) := fun pins s σ H x u Q I ru q => h pins s σ H x u Q I ru q
theorem UnS.or (h : UnS X f1 o1) (h' : UnS X f1 o1') : UnS X f1 (fun x s H Q => o1 x s H Q ∨ o1' x s H Q) := fun pins s σ H x u Q I ru q => q.elim (h pins s σ H x u Q I ru) (h' pins s σ H x u Q I ru)
theorem CallS.of {r : List V → Hp → VK → Prop} (h : CallR X fv r) : CallS X fv (fun xs _ H Q => r xs H Q) := fun pins s σ H xs us Q I ru q => h pins s σ H xs us Q I ru q
theorem CallS.or (h : CallS X fv oc) (h' : CallS X fv oc') : CallS X fv (fun xs s H Q => oc xs s H Q ∨ oc' xs s H Q) := fun pins s σ H xs us Q I ru q => q.elim (h pins s σ H xs us Q I ru) (h' pins s σ H xs us Q I ru)
theorem pe_bin (ho : OpS X (binaryOp op) o) (ha : PE X a ta) (hb : PE X b tb) : PE X (.BinOp a op b pos) (t2 o ta tb) :=
  ⟨fun pins s σ H Q I h => wpAny_BinOp (binT ha hb I (R := fun x y H2 => o x y σ H2 Q) h fun v u s2 x y H2 I2 r1 r2 q => ho pins s2 σ H2 x y v u Q I2 r1 r2 q)⟩
theorem pe_una (ho : UnS X (unaryOp uop) o1) (ha : PE X a ta) : PE X (.UnaryOp uop a pos) (t1 o1 ta) :=
  ⟨fun pins s σ H Q I h => UnaryOp_ (thn (ha.run pins s σ H _ I h) fun v s1 ⟨x, H1, I1, r1, q1⟩ => ho pins s1 σ H1 x v Q I1 r1 q1)⟩
theorem pe_cm (ho : OpS X (compareOp cop) o) (ha : PE X a ta) (hb : PE X b tb) (hm : behindInMarks cop b = false) : PE X (.Compare a [cop] [b] pos) (t2 o ta tb) :=
  ⟨fun pins s σ H Q I h => wpAny_Compare1 (binT ha hb I (R := fun x y H2 => o x y σ H2 Q) h fun v u s2 x y H2 I2 rx ry q => ho pins s2 σ H2 x y v u Q I2 rx ry q) hm⟩
theorem pt_cm (ho : OpS X (compareOp cop) o) (ha : PE X a ta) (hb : PE X b tb) (hm : behindInMarks cop b = false) : PT X (.Compare a [cop] [b] pos) (tTest (t2 o ta tb)) := by
  refine ⟨fun pins s σ H Q I h => ?_⟩
  refine wpAny_isTrue_Compare1 (thn (ha.run pins s σ H _ I h) fun v s1 ⟨x, H1, I1, r1, q1⟩ => thn (hb.run pins s1 σ H1 _ I1 q1) fun u s2 ⟨y, H2, I2, r2, q2⟩ =>
    thn (ho pins s2 σ H2 x y v u _ I2 r1 r2 q2) fun c s3 ⟨z, H3, I3, r3, k, e, q3⟩ => ?_) hm
  subst e
  cases r3
  exact wpAny_truthy_bool ⟨H3, I3, q3⟩
/-- a chain of two comparisons -/
def t3 (o o' : O2) (ta tb tc : TE) : TE := fun σ H Q => ta σ H fun x H1 => tb σ H1 fun y H2 => o x y σ H2 fun z H3 => ∃ k, z = .bl k ∧
  (if k = true then tc σ H3 fun w' H4 => o' y w' σ H4 Q else Q (.bl false) H3)
theorem pe_ch (ho : OpS X (compareOp cop) o) (ho' : OpS X (compareOp cop') o') (ha : PE X a ta) (hb : PE X b tb) (hc : PE X c tc)
    (hm : lastMarks [cop, cop'] [b, c] = false := by with_unfolding_all rfl) : PE X (.Compare a [cop, cop'] [b, c] pos) (t3 o o' ta tb tc) := by
  refine ⟨fun pins s σ H Q I h => ?_⟩
  refine Compare_chain (thn (ha.run pins s σ H _ I h) fun v s1 ⟨x, H1, I1, r1, q1⟩ => chain_link (thn (hb.run pins s1 σ H1 _ I1 q1) fun u s2 ⟨y, H2, I2, r2, q2⟩ =>
    thn (ho pins s2 σ H2 x y v u _ I2 r1 r2 q2) fun d s3 ⟨z, H3, I3, r3, k, e, q3⟩ => ?_)) hm
  subst e
  cases r3
  refine wpAny_truthy_bool ?_
  cases k with
  | false => exact ite_ff ⟨.bl false, H3, I3, rfl, q3⟩
  | true => exact ite_tt (chain_last (thn (hc.run pins s3 σ H3 _ I3 q3) fun w' s4 ⟨z', H4, I4, r4, q4⟩ => ho' pins s4 σ H4 y z' u w' Q I4 r2 r4 q4))
theorem pt_ch (ho : OpS X (compareOp cop) o) (ho' : OpS X (compareOp cop') o') (ha : PE X a ta) (hb : PE X b tb) (hc : PE X c tc)
    (hm : lastMarks [cop, cop'] [b, c] = false := by with_unfolding_all rfl) : PT X (.Compare a [cop, cop'] [b, c] pos) (tTest (t3 o o' ta tb tc)) := by
  refine ⟨fun pins s σ H Q I h => ?_⟩
  refine isTrue_chain (thn (ha.run pins s σ H _ I h) fun v s1 ⟨x, H1, I1, r1, q1⟩ => test_link (thn (hb.run pins s1 σ H1 _ I1 q1) fun u s2 ⟨y, H2, I2, r2, q2⟩ =>
    thn (ho pins s2 σ H2 x y v u _ I2 r1 r2 q2) fun d s3 ⟨z, H3, I3, r3, k, e, q3⟩ => ?_)) hm
  subst e
  cases r3
  refine wpAny_truthy_bool ?_
  cases k with
  | false =>
    obtain ⟨k', e', q'⟩ := q3
    cases e'
    exact ite_ff ⟨H3, I3, q'⟩
  | true =>
    refine ite_tt (test_last (thn (hc.run pins s3 σ H3 _ I3 q3) fun w' s4 ⟨z', H4, I4, r4, q4⟩ => thn (ho' pins s4 σ H4 y z' u w' _ I4 r2 r4 q4) fun d' s5 ⟨z2, H5, I5, r5, k2, e2, q5⟩ => ?_))
    subst e2
    cases r5
    exact wpAny_truthy_bool ⟨H5, I5, q5⟩
/-- a value as a test -/
def tTr (K : PySem.W.Frag) (ta : TE) : TT := fun σ H Q => ta σ H fun x H' => ∃ k, TruV K x H' k ∧ Q k H'
theorem pt_tr (ha : PE X a ta) (he : ∀ whole, isTrue a X.env whole = (do let v ← whole; standAt a.pos; holding [v] (truthy v)) := by intro _; rfl) : PT X a (tTr X.K ta) := pt_truth ha he
/-- built-in functions and classes by name -/
theorem pe_cb (hc : CallS X (.builtin id) oc) (hg : Gl X x) (hm : X.mg x = none) (hv : bootBuiltins x = some (.builtin id)) (ha : PA X (e :: es) t) (hn : x ≠ "__name__" := by decide) (hdb : (x == ("__debug__" : Str)) = false := by decide)
    (he : starEach (e :: es) X.env = (false, eval e X.env) :: starEach es X.env := by rfl) (hpl : (backTo pos (starEach es X.env)).any (·.1) = false := by rfl) : PE X (.Call (.Name x p) (e :: es) [] pos) (tC2 oc t) := by
  refine ⟨fun pins s σ H Q I h => ?_⟩
  refine wpAny_Call_Name_kw (ld_blt I hg hm hv ?_ hn hdb)
  exact PyProof.Rows.callWith_builtin1 (thn (ha.run pos pins s σ H _ I h) fun us s1 ⟨vs, H1, I1, r1, q1⟩ => hc pins s1 σ H1 vs us Q I1 r1 q1) he hpl
theorem pe_ct (hc : CallS X (.type T) oc) (hg : Gl X x) (hm : X.mg x = none) (hv : bootBuiltins x = some (.type T)) (ha : PA X (e :: es) t) (hn : x ≠ "__name__" := by decide) (hdb : (x == ("__debug__" : Str)) = false := by decide)
    (he : starEach (e :: es) X.env = (false, eval e X.env) :: starEach es X.env := by rfl) (hpl : (backTo pos (starEach es X.env)).any (·.1) = false := by rfl) : PE X (.Call (.Name x p) (e :: es) [] pos) (tC2 oc t) := by
  refine ⟨fun pins s σ H Q I h => ?_⟩
  refine wpAny_Call_Name_kw (ld_blt I hg hm hv ?_ hn hdb)
  exact PyProof.Rows.callWith_type1 (thn (ha.run pos pins s σ H _ I h) fun us s1 ⟨vs, H1, I1, r1, q1⟩ => hc pins s1 σ H1 vs us Q I1 r1 q1) he hpl
theorem pe_cf (hc : CallS X (.builtin id) oc) (hg : Gl X x) (hm : X.mg x = some (.builtin id)) (ha : PA X (e :: es) t) (hdb : (x == ("__debug__" : Str)) = false := by decide)
    (he : starEach (e :: es) X.env = (false, eval e X.env) :: starEach es X.env := by rfl) (hpl : (backTo pos (starEach es X.env)).any (·.1) = false := by rfl) : PE X (.Call (.Name x p) (e :: es) [] pos) (tC2 oc t) := by
  refine ⟨fun pins s σ H Q I h => ?_⟩
  refine wpAny_Call_Name_kw (ld_glob I hg hm ?_ hdb)
  exact PyProof.Rows.callWith_builtin1 (thn (ha.run pos pins s σ H _ I h) fun us s1 ⟨vs, H1, I1, r1, q1⟩ => hc pins s1 σ H1 vs us Q I1 r1 q1) he hpl
end
end DL
set_option Elab.async false
set_option linter.all false
set_option maxRecDepth 100000
/-! DL3: promises over trees; defs, methods, classes called; bodies. -/
namespace DL
open PySem PySem.Spec L2
open PyProof.Rows hiding St

/-- a promise over trees: the arguments, what lies mutable, what is wanted of the answer, of an exception -/
abbrev SpecD := List D → Mu → KT → (Ex → Mu → Prop) → Prop
def GoX (m : Mu) (H : Hp) (E : Ex → Mu → Prop) (F : XK) : Prop := ∀ x m' cls dd H', Stp (dom m) H (dom m') H' → MutR m' H' → RepX (dom m') H' x cls dd → E x m' → F cls dd H'
def spD (n : Nat) (S : SpecD) : Sp := fun vs H Q F => ∃ ds m K E, ds.length = n ∧ Reps (dom m) H ds vs ∧ MutR m H ∧ S ds m K E ∧ Go m H K Q ∧ GoX m H E F
/-- the world of a law: its program, what the top has written -/
structure Gx where
  P : Program
  w : World
  K : PySem.W.Frag
  mg : Str → Option Value
  base : Heap
abbrev Gx.of (X : Cx) : Gx := ⟨X.prog, X.w, X.K, X.mg, X.base⟩
/-- constants handed in as defaults -/
def ofD : D → V
  | .int i => .int i
  | .bl b => .bl b
  | .str x => .str x
  | .ref a => .ref a
  | .ty n => .ty n
  | _ => .non
def isC : D → Bool
  | .int _ => true
  | .bl _ => true
  | .str _ => true
  | .ref _ => true
  | .ty _ => true
  | .non => true
  | _ => false
theorem rep_c {M : Addr → Prop} {H : Hp} : ∀ {d : D}, isC d = true → Rep M H d (ofD d)
  | .non, _ => .non
  | .bl b, _ => .bl b
  | .int i, _ => .int i
  | .str x, _ => .str x
  | .ty n, _ => .ty n
  | .ref a, _ => .ref a
  | .tup _, h => by cases h
  | .lst _, h => by cases h
  | .dic _, h => by cases h
  | .ins _ _ _, h => by cases h
  | .exc _ _ _ _ _, h => by cases h
theorem reps_c {M : Addr → Prop} {H : Hp} : ∀ {ds : List D}, ds.all isC = true → Reps M H ds (ds.map ofD)
  | [], _ => .nil
  | d :: ds, h => by
    rw [List.all_cons, Bool.and_eq_true] at h
    exact .cons (rep_c h.1) (reps_c h.2)
/-- a def that stands at f: n parameters, defaults dd -/
structure Fnx (G : Gx) (k : Nat) (f : Addr) (n : Nat) (S : SpecD) (dd : List D) : Prop where
  ex : ∃ (fd : FuncData) (ps : List Str) (ds : List Value), FnOk G.P G.w G.K G.mg G.base (L2N.CX G.P G.w) k f fd ps (spD n S) ∧ Binds G.K fd ps ds ∧ Vals (dd.map ofD) ds
  cs : dd.all isC = true
structure Cal (G : Gx) (k : Nat) (x : Str) (n : Nat) (S : SpecD) (dd : List D) : Prop where
  ex : ∃ f, Fnx G k f n S dd ∧ G.mg x = some (.ref f) ∧ PySem.W.keepIn G.K (.ref f) = true
/-- a method mt of the class at C, whose instances have the fields ns -/
structure Met (G : Gx) (k : Nat) (C : Addr) (ns : List Str) (mt : Str) (n : Nat) (S : SpecD) (dd : List D) : Prop where
  ex : ∃ f, Fnx G k f n S dd ∧ Meth G.K C mt f
  cl : Cls G.K C
  no : ns.contains mt = false
structure Mak (G : Gx) (k : Nat) (x : Str) (C : Addr) (n : Nat) (S : SpecD) (dd : List D) : Prop where
  ex : ∃ f, Fnx G k f n S dd ∧ Mk G.K C f
  mgC : G.mg x = some (.ref C)

section
variable {X : Cx} {W : WX} {E : ET} {r : Rho} {m : Mu} {K : KT} {S : SpecD} {x mt : Str} {k j n : Nat} {dd : List D} {e o : Expr} {es : List Expr} {t : TA} {to : TE} {p pos apos : Pos} {C : Addr} {ns : List Str}

/-! ### a def by its name -/
def tCl (n : Nat) (S : SpecD) (dd : List D) (W : WX) (t : TA) : TE := tCallSD (spD n S) (dd.map ofD) (WE W) t
theorem pe_cl (c : Cal (Gx.of X) k x n S dd) (hr : Room j X.A) (hk : k ≤ j) (tk : L2N.Takes X W) (hg : Gl X x) (ha : PA X (e :: es) t)
    (hdb : (x == ("__debug__" : Str)) = false := by decide) (he : starEach (e :: es) X.env = (false, eval e X.env) :: starEach es X.env := by rfl) (hpl : (backTo pos (starEach es X.env)).any (·.1) = false := by rfl) :
    PE X (.Call (.Name x p) (e :: es) [] pos) (tCl n S dd W t) := by
  obtain ⟨f, ⟨⟨fd, ps, ds, F, b, d⟩, cs⟩, hm, kp⟩ := c.ex
  exact pe_callSD F (hr.mono hk) hg hm kp b d (L2N.passAt tk) ha hdb he hpl
theorem spD_of {ds : List D} {vs : List V} {m1 : Mu} {H1 : Hp} {Q : VK} {s : L2.St} {F : Ex → Mu → Prop} (hn : ds.length = n) (e : EnvR r m1 s H1) (z : Rz W E m1 H1) (g : Go m1 H1 K Q) (rs : Reps (dom m1) H1 ds vs)
    (h : S ds m1 K F) (hF : ∀ x m', F x m' → E x r m') : spD n S vs H1 Q (WE W s) :=
  ⟨ds, m1, K, F, hn, rs, e.mu, h, g, fun x m' cls dd H' a b c q => z x r m' cls dd s H' a (e.step a b) c (hF x m' q)⟩
theorem we_cl (cs : dd.all isC = true) (h : Wa W E t r m fun ds m1 => (ds ++ dd).length = n ∧ S (ds ++ dd) m1 K fun x m' => E x r m') : We W E (tCl n S dd W t) r m K := fun s H Q e z g =>
  h s H _ e z fun ds m1 vs H1 st mu rs q => spD_of q.1 (e.step st mu) (z.step st) (g.step st) (rs.append (reps_c cs)) q.2 fun _ _ q => q

/-! ### a method of an instance -/
def tMt (G : Gx) (j : Nat) (W : WX) (mt : Str) (to : TE) (t : TA) : TE := fun σ H Q => to σ H fun x H1 => ∃ (a C dx : Addr) (fs : List (Str × V)) (k n : Nat) (ns : List Str) (S : SpecD) (dd : List D), x = .ref a ∧ H1 a = some (.ins C dx fs) ∧ fs.lookup mt = none ∧ k ≤ j ∧ Met G k C ns mt n S dd ∧
  t σ H1 fun vs H2 => spD n S (x :: (vs ++ dd.map ofD)) H2 Q (WE W σ)
theorem pe_mth {pl : Sem Bool} (hr : Room j X.A) (tk : L2N.Takes X W) (he : PE X o to) (ha : PA X (e :: es) t)
    (hst : starEach (e :: es) X.env = (false, eval e X.env) :: starEach es X.env := by rfl) (hpl : (backTo pos (starEach es X.env)).any (·.1) = false := by rfl)
    (ht : eval (.Call (.Attribute o mt apos) (e :: es) [] pos) X.env = (do
      let ov ← eval o X.env
      standAt apos.atName
      let (f, first) ← holding [ov] (getMethod ov mt pl)
      callWith pos f first (backTo pos (starEach (e :: es) X.env)) (backToKw pos (keywordEach [] X.env))) := by rfl) :
    PE X (.Call (.Attribute o mt apos) (e :: es) [] pos) (tMt (Gx.of X) j W mt to t) := by
  refine ⟨fun pins s σ H Q I h => ?_⟩
  refine PySem.W.methodCall_KW (pl := pl) (thn (he.run pins s σ H _ I h) fun u s1 ⟨x, H1, I1, rx, a, C, dx, fs, k, n, ns, S, dd, ex, ea, l, hk, M, q⟩ => ?_) ht
  subst ex
  obtain rfl : u = Value.ref a := rx
  obtain ⟨f, ⟨⟨fd, ps, ds, F, b, d⟩, cs⟩, hm⟩ := M.ex
  refine getmeth_ok I1 ea M.cl hm l ?_
  refine PySem.W.callWith_K (first := [.ref a]) (h₀ := X.base) I.ok.mod.kin hm.kp (thn (ha.run pos pins s1 σ H1 _ I1 q) fun us s2 ⟨vs, H2, I2, rr, q2⟩ => ⟨I2.kIn, ?_⟩) hst hpl
  exact run_fnSD (E := WE W) (us := .ref a :: us) (vs := .ref a :: vs) F (hr.mono hk) b d (L2N.passAt tk σ) I2 (.cons rfl rr) q2
theorem pe_mth0 {pl : Sem Bool} (hr : Room j X.A) (tk : L2N.Takes X W) (he : PE X o to)
    (ht : eval (.Call (.Attribute o mt apos) [] [] pos) X.env = (do
      let ov ← eval o X.env
      standAt apos.atName
      let (f, first) ← holding [ov] (getMethod ov mt pl)
      callWith pos f first (backTo pos (starEach [] X.env)) (backToKw pos (keywordEach [] X.env))) := by rfl) :
    PE X (.Call (.Attribute o mt apos) [] [] pos) (tMt (Gx.of X) j W mt to tNil) := by
  refine ⟨fun pins s σ H Q I h => ?_⟩
  refine PySem.W.methodCall_KW (pl := pl) (thn (he.run pins s σ H _ I h) fun u s1 ⟨x, H1, I1, rx, a, C, dx, fs, k, n, ns, S, dd, ex, ea, l, hk, M, q⟩ => ?_) ht
  subst ex
  obtain rfl : u = Value.ref a := rx
  obtain ⟨f, ⟨⟨fd, ps, ds, F, b, d⟩, cs⟩, hm⟩ := M.ex
  refine getmeth_ok I1 ea M.cl hm l ?_
  exact PySem.W.callWith_K0 (first := [.ref a]) I1.kIn hm.kp (run_fnSD (E := WE W) (us := [.ref a]) (vs := [.ref a]) F (hr.mono hk) b d (L2N.passAt tk σ) I1 (.cons rfl .nil) q)
/-- the instance that a tree is -/
inductive InsD : D → Mu → Addr → List Str → Prop
  | fixed {m : Mu} {C : Addr} {ns : List Str} {ds : List D} : InsD (.ins C ns ds) m C ns
  | mutb {m : Mu} {C a : Addr} {ns : List Str} {ds : List D} (h : At m a (.ins C ns ds)) : InsD (.ref a) m C ns
theorem InsD.look {d : D} {m : Mu} {C : Addr} {ns : List Str} {H : Hp} {v : V} (i : InsD d m C ns) (mu : MutR m H) (rp : Rep (dom m) H d v) : ∃ a dx gs ds, v = .ref a ∧ H a = some (.ins C dx gs) ∧ RepF (dom m) H ns ds gs := by
  cases i with
  | fixed =>
    cases rp with
    | ins mm h rf => exact ⟨_, _, _, _, rfl, h, rf⟩
  | mutb h =>
    cases rp
    have q := h.rep mu
    cases q with
    | ins h rf => exact ⟨_, _, _, _, rfl, h, rf⟩
theorem we_mt {G : Gx} (h : We W E to r m fun d m1 => ∃ (k n : Nat) (C : Addr) (ns : List Str) (S : SpecD) (dd : List D), Met G k C ns mt n S dd ∧ dd.all isC = true ∧ k ≤ j ∧ InsD d m1 C ns ∧
    Wa W E t r m1 fun ds m2 => (d :: (ds ++ dd)).length = n ∧ S (d :: (ds ++ dd)) m2 K fun x m' => E x r m') : We W E (tMt G j W mt to t) r m K := fun s H Q e z g =>
  h s H _ e z fun d m1 v H1 st mu rd q => by
    obtain ⟨k, n, C, ns, S, dd, M, cs, hk, i, q⟩ := q
    obtain ⟨a, dx, gs, ds', rfl, ha, rf⟩ := i.look mu rd
    refine ⟨a, C, dx, gs, k, n, ns, S, dd, rfl, ha, rf.no M.no, hk, M, ?_⟩
    refine q s H1 _ (e.step st mu) (z.step st) fun ds m2 vs H2 st2 mu2 rs q2 => ?_
    exact spD_of q2.1 ((e.step st mu).step st2 mu2) ((z.step st).step st2) ((g.step st).step st2) (.cons (rd.mono st2) (rs.append (reps_c cs))) q2.2 fun _ _ q => q

/-! ### a class by its name -/
theorem run_makeS {CX : CXT} {k : Nat} {C f : Addr} {fd : FuncData} {ps : List Str} {sp : Sp} {ds : List Value} {dvs : List V} {E : L2.St → XK} {pins : List (Addr × Obj)} {σ : L2.St} {H : Hp} {s : Shared} {Q : VK} {us : List Value} {vs : List V} (M : Mk X.K C f) (F : FnOk X.prog X.w X.K X.mg X.base CX k f fd ps sp) (hr : Room (k + 1) X.A) (hb : Binds X.K fd ps ds) (hd : Vals dvs ds)
    (hx : PassesAt CX X σ (E σ)) (I : Inv X pins σ H s) (r : Vals vs us)
    (h : ∀ x dx, H x = none → H dx = none → dx ≠ x → sp (.ref x :: (vs ++ dvs)) (upd (upd H dx (.own x)) x (.ins C dx [])) (fun v H2 => v = .non ∧ Q (.ref x) H2) (E σ)) :
    wpAny (model X.prog X.w) X.A (call (.ref C) us) (EP X pins σ Q) X.xe s := by
  have hq := h (s.heap.objs.size + 1) s.heap.objs.size (I.hok.fresh (Nat.le_succ _)) (I.hok.fresh (Nat.le_refl _)) (Nat.ne_of_lt (Nat.lt_succ_self _))
  have I2 := Inv.made (C := C) I
  have r2 : Vals (V.ref (s.heap.objs.size + 1) :: (vs ++ dvs)) (Value.ref (s.heap.objs.size + 1) :: (us ++ ds)) := .cons rfl (r.append hd)
  have hl : (Value.ref (s.heap.objs.size + 1) :: us ++ ds).length = ps.length := by
    have e := r2.length
    rw [F.len _ _ _ _ hq] at e
    exact e.symm
  refine wpAny_call (make_map (f := f) I.kIn M.makes M.init (beq_iff_eq.mp M.fn) (codeAny_mono (F.run _ X.stack _ _ ⟨Value.ref (s.heap.objs.size + 1) :: us, []⟩ (Value.ref (s.heap.objs.size + 1) :: (us ++ ds)) _ _ (E σ) (hr.make C us [])
    (I2.env0.make C us []) (hb _ (Value.ref (s.heap.objs.size + 1) :: us) I2.kIn hl) r2 hq) fun r s' hq' => ?_))
  cases r with
  | error e => exact hx pins _ _ e s' I2 hq'
  | ok fl =>
    cases fl with
    | ret u =>
      obtain ⟨v, H', I3, rv, ev, q3⟩ := I2.after hq'
      subst ev
      exact ⟨rv, ⟨V.ref (s.heap.objs.size + 1), H', I3, rfl, q3⟩⟩
    | next => exact False.elim hq'
    | brk => exact False.elim hq'
    | cont => exact False.elim hq'
def tMk (C : Addr) (n : Nat) (S : SpecD) (dd : List D) (W : WX) (t : TA) : TE := fun σ H Q => t σ H fun vs H1 => ∀ x dx, H1 x = none → H1 dx = none → dx ≠ x →
  spD n S (.ref x :: (vs ++ dd.map ofD)) (upd (upd H1 dx (.own x)) x (.ins C dx [])) (fun v H2 => v = .non ∧ Q (.ref x) H2) (WE W σ)
theorem pe_mak (c : Mak (Gx.of X) k x C n S dd) (hr : Room j X.A) (hk : k + 1 ≤ j) (tk : L2N.Takes X W) (hg : Gl X x) (ha : PA X (e :: es) t)
    (hdb : (x == ("__debug__" : Str)) = false := by decide) (he : starEach (e :: es) X.env = (false, eval e X.env) :: starEach es X.env := by rfl) (hpl : (backTo pos (starEach es X.env)).any (·.1) = false := by rfl) :
    PE X (.Call (.Name x p) (e :: es) [] pos) (tMk C n S dd W t) := by
  obtain ⟨f, ⟨⟨fd, ps, ds, F, b, d⟩, cs⟩, M⟩ := c.ex
  refine ⟨fun pins s σ H Q I h => ?_⟩
  refine wpAny_Call_Name_kw (ld_glob I hg c.mgC ?_ hdb)
  refine PySem.W.callWith_K (h₀ := X.base) I.ok.mod.kin M.kp (thn (ha.run pos pins s σ H _ I h) fun us s1 ⟨vs, H1, I1, r, q⟩ => ⟨I1.kIn, ?_⟩) he hpl
  exact run_makeS (E := WE W) M F (hr.mono hk) b d (L2N.passAt tk σ) I1 r q
theorem pe_mak0 (c : Mak (Gx.of X) k x C n S dd) (hr : Room j X.A) (hk : k + 1 ≤ j) (tk : L2N.Takes X W) (hg : Gl X x) (hdb : (x == ("__debug__" : Str)) = false := by decide) :
    PE X (.Call (.Name x p) [] [] pos) (tMk C n S dd W tNil) := by
  obtain ⟨f, ⟨⟨fd, ps, ds, F, b, d⟩, cs⟩, M⟩ := c.ex
  refine ⟨fun pins s σ H Q I h => ?_⟩
  refine wpAny_Call_Name_kw (ld_glob I hg c.mgC ?_ hdb)
  exact PySem.W.callWith_K0 I.kIn M.kp (run_makeS (E := WE W) (us := []) M F (hr.mono hk) b d (L2N.passAt tk σ) I .nil h)
/-- a new instance that stays as __init__ leaves it -/
theorem we_mk (cs : dd.all isC = true) (h : Wa W E t r m fun ds m1 => (ds ++ dd).length + 1 = n ∧ ∀ x, ¬ dom m1 x →
    S (.ref x :: (ds ++ dd)) ((x, .ins C [] []) :: m1) (fun d m2 => ∃ ns fs, d = .non ∧ m2 = (x, .ins C ns fs) :: m1 ∧ K (.ins C ns fs) m1) fun ex m2 => ∃ o, m2 = (x, o) :: m1 ∧ E ex r m1) : We W E (tMk C n S dd W t) r m K := fun s H Q e z g =>
  h s H _ e z fun ds m1 vs H1 st mu rs q x dx hx hdx hne => by
    have hn1 : upd H1 dx (.own x) x = none := by rw [upd_ne (Ne.symm hne)]; exact hx
    have s1 : Stp (dom m1) H1 (dom m1) (upd H1 dx (.own x)) := Stp.new hdx
    have mu1 : MutR m1 (upd H1 dx (.own x)) := mu.new hdx
    have s2 : Stp (dom m1) (upd H1 dx (.own x)) (dom ((x, .ins C [] []) :: m1)) (upd (upd H1 dx (.own x)) x (.ins C dx [])) := Stp.newM hn1
    have mu2 : MutR ((x, .ins C [] []) :: m1) (upd (upd H1 dx (.own x)) x (.ins C dx [])) := mu1.newM hn1 (.ins upd_same .nil)
    have nd : ¬ dom m1 x := mu2.notin
    refine ⟨.ref x :: (ds ++ dd), _, _, _, by rw [List.length_cons]; exact q.1, .cons (.ref x) ((rs.append (reps_c cs)).mono (s1.trans s2)), mu2, q.2 x nd, ?_, ?_⟩
    · rintro d m' v H' a b c ⟨ns, fs, rfl, rfl, k⟩
      cases c
      refine ⟨rfl, ?_⟩
      have at1 := (At.head (m := m1) (p := x) (o := .ins C ns fs)).rep b
      have ls : Stp (dom ((x, MO.ins C ns fs) :: m1)) H' (dom m1) H' := Stp.less fun a z => dom_cons.mpr (.inr z)
      cases at1 with
      | ins hh rf => exact g _ m1 _ H' (st.trans ((s1.trans s2).trans (a.trans ls))) b.drop (.ins nd hh (rf.mono ls)) k
    · rintro ex m' cls dd' H' a b c ⟨o, rfl, k⟩
      have ls : Stp (dom ((x, o) :: m1)) H' (dom m1) H' := Stp.less fun a z => dom_cons.mpr (.inr z)
      have tot := st.trans ((s1.trans s2).trans (a.trans ls))
      exact z ex r m1 cls dd' s H' tot (e.step tot b.drop) (c.mono ls) k
end

/-! ### bodies -/
abbrev cxG (G : Gx) (N : List Str) (qual : Str) (st : Stmt) (f : Addr) (cdv : Value) (A : Around) (outer : List Env) (s : Shared) (H : Hp) (F : XK) : Cx := cxOf (L2N.CX G.P G.w) G.P G.w G.K G.mg G.base N qual (defScope st) f cdv A outer s H F
abbrev wF (F : XK) : WX := fun cls d _ H => F cls d H
abbrev eF (E : Ex → Mu → Prop) : ET := fun x _ m => E x m
abbrev pF (K : KT) : DEnds := { nx := fun _ m => K .non m, rt := K }
/-- a promise is kept by the body of the def -/
abbrev FunW (K : PySem.W.Frag) (x qual : Str) (st : Stmt) (dvs : List V) (f : Addr) (fd : FuncData) : Prop := FunD K x qual (defArgs st) (defBody st) (defScope st) dvs [] f fd
theorem funW_of {K : PySem.W.Frag} {x qual : Str} {st : Stmt} {f : Addr} {fd : FuncData} (F : L2.Fun K x qual st f fd) : FunW K x qual st [] f fd := by
  have kp := F.kp
  obtain ⟨oc, od, kV, doc, pm, an, cdv, ct, osl, rfl, lk, hcd⟩ := F.ex
  exact ⟨⟨oc, od, _, kV, doc, pm, an, cdv, ct, osl, rfl, lk, hcd, .inl ⟨rfl, rfl⟩, .inl rfl⟩, kp⟩
theorem fnok_ofD {G : Gx} {xn qual : Str} {st : Stmt} {f : Addr} {fd : FuncData} {N ps : List Str} {k n : Nat} {S : SpecD} {dvs : List V} (F : FunW G.K xn qual st dvs f fd) (Sc : FnScope N ps (defScope st)) (hn : ps.length = n)
    (h : ∀ (cdv : Value) (A : Around) (outer : List Env) (s : Shared) (H : Hp) (F : XK), Room k (cxG G N qual st f cdv A outer s H F).A → L2N.Takes (cxG G N qual st f cdv A outer s H F) (wF F) →
      ∃ t, PSs (cxG G N qual st f cdv A outer s H F) (defBody st) t ∧ ∀ ds m K E, ds.length = n → S ds m K E → Ws (wF F) (eF E) t (ds.map some ++ List.replicate (N.length - n) none) m (pF K)) : FnOk G.P G.w G.K G.mg G.base (L2N.CX G.P G.w) (k + 1) f fd ps (spD n S) := by
  obtain ⟨oc, od, dV, kV, doc, pm, an, cdv, ct, osl, rfl, lk, hcd, _, _⟩ := F.ex
  refine fn_of lk hcd Sc (fun vs H Q E q => ?_) (fun A outer s H vs Q E hr q => ?_)
  · obtain ⟨ds, m, K, E, h1, h2, _⟩ := q
    rw [← h2.length, h1, hn]
  · obtain ⟨ds, m, K, E', h1, h2, mu, hs, g, gx⟩ := q
    obtain ⟨t, ht, hw⟩ := h cdv A outer s H E hr (L2N.takes_of rfl rfl rfl rfl)
    refine ⟨t, ht, hw ds m K E' h1 hs _ H _ ⟨?_, mu⟩ ?_ ?_⟩
    · have e : vs.length = n := by rw [← h2.length, h1]
      unfold L2.start
      rw [e]
      exact ROs.start _ h2
    · intro x r' m' cls dd s' H' a b c q
      exact gx x m' cls dd H' a b.mu c q
    · exact ⟨fun r' m' s' H' a b q => g _ m' _ H' a b.mu .non q, fun d m' v H' a b c q => g d m' v H' a b c q, fun _ _ _ _ _ _ q => q, fun _ _ _ _ _ _ q => q⟩
theorem fnok_of {G : Gx} {xn qual : Str} {st : Stmt} {f : Addr} {fd : FuncData} {N ps : List Str} {k n : Nat} {S : SpecD} (F : L2.Fun G.K xn qual st f fd) (Sc : FnScope N ps (defScope st)) (hn : ps.length = n)
    (h : ∀ (cdv : Value) (A : Around) (outer : List Env) (s : Shared) (H : Hp) (F : XK), Room k (cxG G N qual st f cdv A outer s H F).A → L2N.Takes (cxG G N qual st f cdv A outer s H F) (wF F) →
      ∃ t, PSs (cxG G N qual st f cdv A outer s H F) (defBody st) t ∧ ∀ ds m K E, ds.length = n → S ds m K E → Ws (wF F) (eF E) t (ds.map some ++ List.replicate (N.length - n) none) m (pF K)) : FnOk G.P G.w G.K G.mg G.base (L2N.CX G.P G.w) (k + 1) f fd ps (spD n S) := fnok_ofD (funW_of F) Sc hn h
theorem fnx_ofD {G : Gx} {xn qual : Str} {st : Stmt} {f : Addr} {fd : FuncData} {N ps : List Str} {k n : Nat} {S : SpecD} {dvs : List V} {dd : List D} {ds : List Value} (F : FunW G.K xn qual st dvs f fd) (Sc : FnScope N ps (defScope st)) (hn : ps.length = n)
    (b : Binds G.K fd ps ds) (d : Vals (dd.map ofD) ds) (cs : dd.all isC = true)
    (h : ∀ (cdv : Value) (A : Around) (outer : List Env) (s : Shared) (H : Hp) (F : XK), Room k (cxG G N qual st f cdv A outer s H F).A → L2N.Takes (cxG G N qual st f cdv A outer s H F) (wF F) →
      ∃ t, PSs (cxG G N qual st f cdv A outer s H F) (defBody st) t ∧ ∀ ds m K E, ds.length = n → S ds m K E → Ws (wF F) (eF E) t (ds.map some ++ List.replicate (N.length - n) none) m (pF K)) : Fnx G (k + 1) f n S dd := ⟨⟨_, ps, ds, fnok_ofD F Sc hn h, b, d⟩, cs⟩
theorem fnx_of {G : Gx} {xn qual : Str} {st : Stmt} {f : Addr} {fd : FuncData} {N ps : List Str} {k n : Nat} {S : SpecD} {dd : List D} {ds : List Value} (F : L2.Fun G.K xn qual st f fd) (Sc : FnScope N ps (defScope st)) (hn : ps.length = n)
    (b : Binds G.K fd ps ds) (d : Vals (dd.map ofD) ds) (cs : dd.all isC = true)
    (h : ∀ (cdv : Value) (A : Around) (outer : List Env) (s : Shared) (H : Hp) (F : XK), Room k (cxG G N qual st f cdv A outer s H F).A → L2N.Takes (cxG G N qual st f cdv A outer s H F) (wF F) →
      ∃ t, PSs (cxG G N qual st f cdv A outer s H F) (defBody st) t ∧ ∀ ds m K E, ds.length = n → S ds m K E → Ws (wF F) (eF E) t (ds.map some ++ List.replicate (N.length - n) none) m (pF K)) : Fnx G (k + 1) f n S dd := fnx_ofD (funW_of F) Sc hn b d cs h
/-! ### defs called within an except suite: nothing is raised -/
structure CalH (G : Gx) (k : Nat) (x : Str) (n : Nat) (S : SpecD) : Prop where
  ex : ∃ (f : Addr) (fd : FuncData) (ps : List Str), L2H.FnH G.P G.w G.K G.mg G.base (L2N.CX G.P G.w) k f fd ps (spD n S) ∧ Binds G.K fd ps [] ∧ G.mg x = some (.ref f) ∧ PySem.W.keepIn G.K (.ref f) = true
abbrev cxGH (G : Gx) (N : List Str) (qual : Str) (st : Stmt) (f : Addr) (cdv : Value) (A : Around) (outer : List Env) (s : Shared) (H : Hp) (F : XK) (p : Addr × Obj) : Cx := L2H.cxH (L2N.CX G.P G.w) G.P G.w G.K G.mg G.base N qual (defScope st) f cdv A outer s H F p
theorem calH_of {G : Gx} {x : Str} {st : Stmt} {f : Addr} {fd : FuncData} {N ps : List Str} {k n : Nat} {S : SpecD} (F : L2.Fun G.K x x st f fd) (hm : G.mg x = some (.ref f)) (Sc : FnScope N ps (defScope st)) (hn : ps.length = n)
    (b : Binds G.K fd ps [])
    (h : ∀ (cdv : Value) (A : Around) (outer : List Env) (s : Shared) (H : Hp) (F : XK) (p : Addr × Obj), L2H.Hot1 A p → L2H.RoomH k (cxGH G N x st f cdv A outer s H F p).A → L2N.Takes (cxGH G N x st f cdv A outer s H F p) (wF F) →
      ∃ t, PSs (cxGH G N x st f cdv A outer s H F p) (defBody st) t ∧ ∀ ds m K E, ds.length = n → S ds m K E → Ws (wF F) (eF E) t (ds.map some ++ List.replicate (N.length - n) none) m (pF K)) : CalH G (k + 1) x n S := by
  have kp := F.kp
  obtain ⟨oc, od, kV, doc, pm, an, cdv, ct, osl, rfl, lk, hcd⟩ := F.ex
  refine ⟨f, _, ps, L2H.fn_ofH lk hcd Sc (fun vs H Q E q => ?_) (fun A outer s H vs Q E p hot hr q => ?_), b, hm, kp⟩
  · obtain ⟨ds, m, K, E, h1, h2, _⟩ := q
    rw [← h2.length, h1, hn]
  · obtain ⟨ds, m, K, E', h1, h2, mu, hs, g, gx⟩ := q
    obtain ⟨t, ht, hw⟩ := h cdv A outer s H E p hot hr (L2N.takes_of rfl rfl rfl rfl)
    refine ⟨t, ht, hw ds m K E' h1 hs _ H _ ⟨?_, mu⟩ ?_ ?_⟩
    · have e : vs.length = n := by rw [← h2.length, h1]
      unfold L2.start
      rw [e]
      exact ROs.start _ h2
    · intro x r' m' cls dd s' H' a b c q
      exact gx x m' cls dd H' a b.mu c q
    · exact ⟨fun r' m' s' H' a b q => g _ m' _ H' a b.mu .non q, fun d m' v H' a b c q => g d m' v H' a b c q, fun _ _ _ _ _ _ q => q, fun _ _ _ _ _ _ q => q⟩
section
variable {X : Cx} {W : WX} {E : ET} {r : Rho} {m : Mu} {K : KT} {S : SpecD} {x : Str} {k j n : Nat} {e : Expr} {es : List Expr} {t : TA} {p pos : Pos}
def tClH (n : Nat) (S : SpecD) (W : WX) (t : TA) : TE := tCallS (spD n S) (WE W) t
theorem pe_clH (c : CalH (Gx.of X) k x n S) (hr : L2H.RoomH j X.A) (hk : k ≤ j) (hc : L2H.HotC X) (tk : L2N.Takes X W) (hg : Gl X x) (ha : PA X (e :: es) t)
    (hdb : (x == ("__debug__" : Str)) = false := by decide) (he : starEach (e :: es) X.env = (false, eval e X.env) :: starEach es X.env := by rfl) (hpl : (backTo pos (starEach es X.env)).any (·.1) = false := by rfl) :
    PE X (.Call (.Name x p) (e :: es) [] pos) (tClH n S W t) := by
  obtain ⟨f, fd, ps, F, b, hm, kp⟩ := c.ex
  exact L2H.pe_callH F (hr.mono hk) hc hg hm kp b (L2N.passAt tk) ha hdb he hpl
theorem we_clH (h : Wa W E t r m fun ds m1 => ds.length = n ∧ S ds m1 K fun x m' => E x r m') : We W E (tClH n S W t) r m K := fun s H Q e z g =>
  h s H _ e z fun ds m1 vs H1 st mu rs q => spD_of q.1 (e.step st mu) (z.step st) (g.step st) rs q.2 fun _ _ q => q
end
end DL
set_option Elab.async false
set_option linter.all false
set_option maxRecDepth 100000
/-! DL4: operators. -/
namespace DL
open PySem PySem.Spec L2
open PyProof.Rows hiding St

/-! ### an own class's operator -/
/-- the class at C takes the special method nm: n values, the promise S -/
structure Opr (G : Gx) (k : Nat) (C : Addr) (nm : Str) (n : Nat) (S : SpecD) : Prop where
  ex : ∃ f, Fnx G k f n S [] ∧ PySem.W.findIn G.K (.ref C) nm = some (some (.ref f)) ∧ PySem.W.isFn G.K (.ref f) = true
  cl : Cls G.K C
  sf : PySem.W.selfFirst G.K C = true
theorem back_of {X : Cx} {pins : List (Addr × Obj)} {σ : L2.St} {Q : VK} {u : Value} {s : Shared} (h : EP X pins σ Q u s) : PySem.W.CmpBack (EP X pins σ Q) u s := by
  obtain ⟨v, H, I, r, q⟩ := id h
  cases u <;> first | exact h | (cases v <;> first | (obtain ⟨t, e⟩ := r; cases e) | cases r)
section
variable {X : Cx} {W : WX} {j : Nat}
def oOwn2 (G : Gx) (j : Nat) (W : WX) (nm : Str) : O2 := fun x y σ H Q => ∃ (a b C dx dy : Addr) (fs gs : List (Str × V)) (k : Nat) (S : SpecD), x = .ref a ∧ y = .ref b ∧ H a = some (.ins C dx fs) ∧ H b = some (.ins C dy gs) ∧ k ≤ j ∧ Opr G k C nm 2 S ∧ spD 2 S [x, y] H Q (WE W σ)
theorem inst_of {pins : List (Addr × Obj)} {σ : L2.St} {H : Hp} {s : Shared} {a C dx : Addr} {fs : List (Str × V)} (I : Inv X pins σ H s) (e : H a = some (.ins C dx fs)) : ∃ od, PySem.W.InstAt s.heap a (PySem.W.instObj C dx) C od := by
  obtain ⟨mA, O, _⟩ := ins_get I.hok e
  obtain ⟨od, J, _⟩ := O.look
  exact ⟨_, J⟩
theorem os_own2 (hr : Room j X.A) (tk : L2N.Takes X W) {op : Operator} : OpS X (binaryOp op) (oOwn2 (Gx.of X) j W (PySem.dunder op.info.2)) := by
  intro pins s σ H x y u v Q I rx ry h
  obtain ⟨a, b, C, dx, dy, fs, gs, k, S, rfl, rfl, ha, hb, hk, O, q⟩ := h
  obtain rfl : u = Value.ref a := rx
  obtain rfl : v = Value.ref b := ry
  obtain ⟨f, ⟨⟨fd, ps, ds, F, bd, d⟩, cs⟩, h1, h2⟩ := O.ex
  obtain ⟨od, J⟩ := inst_of I ha
  obtain ⟨od', J'⟩ := inst_of I hb
  obtain ⟨m, fr⟩ := I.fr
  refine PySem.W.binop_K fr I.ok.mod.kin J J'.type O.sf h1 h2 ?_
  refine wpAny_mono (run_fnSD (E := WE W) (us := [.ref a, .ref b]) (vs := [.ref a, .ref b]) F (hr.mono hk) bd d (L2N.passAt tk σ) I (.cons rfl (.cons rfl .nil)) q) (fun r s' hq => back_of hq) fun _ _ z => z
def oOwn1 (G : Gx) (j : Nat) (W : WX) (nm : Str) : O1 := fun x σ H Q => ∃ (a C dx : Addr) (fs : List (Str × V)) (k : Nat) (S : SpecD), x = .ref a ∧ H a = some (.ins C dx fs) ∧ k ≤ j ∧ Opr G k C nm 1 S ∧ spD 1 S [x] H Q (WE W σ)
theorem us_own (hr : Room j X.A) (tk : L2N.Takes X W) : UnS X (unaryOp .USub) (oOwn1 (Gx.of X) j W "__neg__") := by
  intro pins s σ H x u Q I rx h
  obtain ⟨a, C, dx, fs, k, S, rfl, ha, hk, O, q⟩ := h
  obtain rfl : u = Value.ref a := rx
  obtain ⟨f, ⟨⟨fd, ps, ds, F, bd, d⟩, cs⟩, h1, h2⟩ := O.ex
  obtain ⟨od, J⟩ := inst_of I ha
  obtain ⟨m, fr⟩ := I.fr
  exact PySem.W.ksp_neg fr I.ok.mod.kin J h1 h2 (run_fnSD (E := WE W) (us := [.ref a]) (vs := [.ref a]) F (hr.mono hk) bd d (L2N.passAt tk σ) I (.cons rfl .nil) q)

/-! ### the operators as unions -/
def CDivX (_ j : Int) : Prop := j ≠ 0 ∧ j.natAbs.log2 < 9000
theorem op_fdivX : OpR X (binaryOp .FloorDiv) (rI CDivX fun i j => .int (i.fdiv j)) := opI fun i j _ _ _ _ _ hc q => PyProof.Rows.floordiv_int hc.1 q (.inl (PyProof.noPylong_of_log2 hc.2))
def CMulX (i j : Int) : Prop := i.natAbs.log2 + j.natAbs.log2 < 100000000
theorem CMulX.ok {i j : Int} (h : CMulX i j) : IntMulOk i j := by
  have b : ∀ x : Int, Builtin.Int.intBits x ≤ x.natAbs.log2 + 1 := fun x => by
    unfold Builtin.Int.intBits
    split <;> omega
  have h1 := b i
  have h2 := b j
  have h3 : i.natAbs.log2 + j.natAbs.log2 < 100000000 := h
  have e : bitsLine = 134217728 := by decide
  unfold IntMulOk
  intro z
  rw [Bool.and_eq_true] at z
  have z2 := z.2
  unfold Builtin.Int.intTooBig at z2
  have z3 := of_decide_eq_true z2
  rw [e] at z3
  omega
theorem op_mulX : OpR X (binaryOp .Mult) (rI CMulX fun i j => .int (i * j)) := opI fun _ _ _ _ _ _ _ hc q => PyProof.Rows.mul_int q hc.ok
def rStrAdd : R2 := fun x y H Q => ∃ i j, x = .str i ∧ y = .str j ∧ i.length + j.length ≤ sizeLine ∧ Q (.str (i ++ j)) H
def oAdd (G : Gx) (j : Nat) (W : WX) : O2 := fun x y s H Q => rI0 (fun i j => .int (i + j)) x y H Q ∨ (rStrAdd x y H Q ∨ (rCat x y H Q ∨ (rCatT G.K x y H Q ∨ oOwn2 G j W "__add__" x y s H Q)))
theorem os_add (hr : Room j X.A) (tk : L2N.Takes X W) : OpS X (binaryOp .Add) (oAdd (Gx.of X) j W) := (OpS.of op_add).or ((OpS.of op_add_str).or ((OpS.of op_cat).or ((OpS.of op_catT).or (os_own2 hr tk))))
def oSub (G : Gx) (j : Nat) (W : WX) : O2 := fun x y s H Q => rI0 (fun i j => .int (i - j)) x y H Q ∨ oOwn2 G j W "__sub__" x y s H Q
theorem os_sub (hr : Room j X.A) (tk : L2N.Takes X W) : OpS X (binaryOp .Sub) (oSub (Gx.of X) j W) := (OpS.of op_sub).or (os_own2 hr tk)
def oMul (G : Gx) (j : Nat) (W : WX) : O2 := fun x y s H Q => rI CMulX (fun i j => .int (i * j)) x y H Q ∨ (rRep x y H Q ∨ oOwn2 G j W "__mul__" x y s H Q)
theorem os_mul (hr : Room j X.A) (tk : L2N.Takes X W) : OpS X (binaryOp .Mult) (oMul (Gx.of X) j W) := (OpS.of op_mulX).or ((OpS.of op_rep).or (os_own2 hr tk))
def oFdiv : O2 := fun x y _ H Q => rI CDivX (fun i j => .int (i.fdiv j)) x y H Q
theorem os_fdiv : OpS X (binaryOp .FloorDiv) oFdiv := OpS.of op_fdivX
def oMod : O2 := fun x y _ H Q => rI (fun _ j => j ≠ 0) (fun i j => .int (i.fmod j)) x y H Q
theorem os_mod : OpS X (binaryOp .Mod) oMod := OpS.of op_modN
def oPow : O2 := fun x y _ H Q => rI CPow (fun i j => .int (i ^ j.toNat)) x y H Q
theorem os_pow : OpS X (binaryOp .Pow) oPow := OpS.of op_pow
def oNeg (G : Gx) (j : Nat) (W : WX) : O1 := fun x s H Q => rU (fun i => .int (-i)) x H Q ∨ oOwn1 G j W "__neg__" x s H Q
theorem us_neg (hr : Room j X.A) (tk : L2N.Takes X W) : UnS X (unaryOp .USub) (oNeg (Gx.of X) j W) := (UnS.of un_neg).or (us_own hr tk)
/-! comparisons -/
def oLt : O2 := fun x y _ H Q => rI0 (fun i j => .bl (decide (i < j))) x y H Q
def oLe : O2 := fun x y _ H Q => rI0 (fun i j => .bl (decide (i ≤ j))) x y H Q
def oGt : O2 := fun x y _ H Q => rI0 (fun i j => .bl (decide (j < i))) x y H Q
def oGe : O2 := fun x y _ H Q => rI0 (fun i j => .bl (decide (j ≤ i))) x y H Q
theorem os_lt : OpS X (compareOp .Lt) oLt := OpS.of op_lt
theorem os_le : OpS X (compareOp .LtE) oLe := OpS.of op_le
theorem os_gt : OpS X (compareOp .Gt) oGt := OpS.of op_gt
theorem os_ge : OpS X (compareOp .GtE) oGe := OpS.of op_ge
def rIsN' : R2 := fun x y H Q => y = .non ∧ Q (.bl (decide (x = .non))) H
def rNotN' : R2 := fun x y H Q => y = .non ∧ Q (.bl (!decide (x = .non))) H
def oIs : O2 := fun x y _ H Q => rIsN' x y H Q ∨ rIsB x y H Q
def oIsNot : O2 := fun x y _ H Q => rNotN' x y H Q ∨ rNotB x y H Q
theorem os_is : OpS X (compareOp .Is) oIs := OpS.or (OpS.of op_isN) (OpS.of op_isBl)
theorem os_isnot : OpS X (compareOp .IsNot) oIsNot := OpS.or (OpS.of op_notN) (OpS.of op_notBl)
def oEq (G : Gx) (j : Nat) (W : WX) : O2 := fun x y _ H Q => rEq x y H Q
def oNe (G : Gx) (j : Nat) (W : WX) : O2 := fun x y _ H Q => rNe x y H Q
theorem os_eq (hr : Room j X.A) (tk : L2N.Takes X W) : OpS X (compareOp .Eq) (oEq (Gx.of X) j W) := OpS.of op_eq
theorem os_ne (hr : Room j X.A) (tk : L2N.Takes X W) : OpS X (compareOp .NotEq) (oNe (Gx.of X) j W) := OpS.of op_ne
/-! .. within an except suite: numbers, texts alone -/
def oEqH : O2 := fun x y _ H Q => rEq x y H Q
def oNeH : O2 := fun x y _ H Q => rNe x y H Q
theorem os_eqH : OpS X (compareOp .Eq) oEqH := OpS.of op_eq
theorem os_neH : OpS X (compareOp .NotEq) oNeH := OpS.of op_ne
def oMulH : O2 := fun x y _ H Q => rI CMulX (fun i j => .int (i * j)) x y H Q
theorem os_mulH : OpS X (binaryOp .Mult) oMulH := OpS.of op_mulX
def oAddH : O2 := fun x y _ H Q => rI0 (fun i j => .int (i + j)) x y H Q
theorem os_addH : OpS X (binaryOp .Add) oAddH := OpS.of op_add
def oSubH : O2 := fun x y _ H Q => rI0 (fun i j => .int (i - j)) x y H Q
theorem os_subH : OpS X (binaryOp .Sub) oSubH := OpS.of op_sub
def oNegH : O1 := fun x _ H Q => rU (fun i => .int (-i)) x H Q
theorem us_negH : UnS X (unaryOp .USub) oNegH := UnS.of un_neg
end

/-! ### what they do to trees -/
section
variable {W : WX} {E : ET} {r : Rho} {m : Mu} {K : KT} {G : Gx} {j : Nat} {i k : Int} {te ta tb tc : TE} {t : TA} {o o' : O2} {o1 : O1} {oc : OC}
theorem w2_val {o : O2} {x y d : D} {vx vy v : V} (hx : ∀ M H w, Rep M H x w → w = vx) (hy : ∀ M H w, Rep M H y w → w = vy) (hd : ∀ M H, Rep M H d v) (ho : ∀ s H (Q : VK), Q v H → o vx vy s H Q) (k : K d m) : W2 W E o x y r m K := fun s H Q a b e z ra rb g => by
  rw [hx _ _ _ ra, hy _ _ _ rb]
  exact ho s H Q (g d m v H (Stp.refl _ _) e.mu (hd _ _) k)
theorem rint {M : Addr → Prop} {H : Hp} {i : Int} {w : V} (h : Rep M H (.int i) w) : w = .int i := by cases h; rfl
theorem rstr {M : Addr → Prop} {H : Hp} {i : Str} {w : V} (h : Rep M H (.str i) w) : w = .str i := by cases h; rfl
theorem rbl {M : Addr → Prop} {H : Hp} {i : Bool} {w : V} (h : Rep M H (.bl i) w) : w = .bl i := by cases h; rfl
theorem rnon {M : Addr → Prop} {H : Hp} {w : V} (h : Rep M H .non w) : w = .non := by cases h; rfl
theorem w2_add (h : K (.int (i + k)) m) : W2 W E (oAdd G j W) (.int i) (.int k) r m K := w2_val (fun _ _ _ => rint) (fun _ _ _ => rint) (fun _ _ => .int _) (fun _ _ _ q => .inl ⟨i, k, rfl, rfl, q⟩) h
theorem w2_sub (h : K (.int (i - k)) m) : W2 W E (oSub G j W) (.int i) (.int k) r m K := w2_val (fun _ _ _ => rint) (fun _ _ _ => rint) (fun _ _ => .int _) (fun _ _ _ q => .inl ⟨i, k, rfl, rfl, q⟩) h
theorem w2_mul (h : CMulX i k ∧ K (.int (i * k)) m) : W2 W E (oMul G j W) (.int i) (.int k) r m K := w2_val (fun _ _ _ => rint) (fun _ _ _ => rint) (fun _ _ => .int _) (fun _ _ _ q => .inl ⟨i, k, rfl, rfl, h.1, q⟩) h.2
theorem w2_fdiv (h : CDivX i k ∧ K (.int (i.fdiv k)) m) : W2 W E oFdiv (.int i) (.int k) r m K := w2_val (fun _ _ _ => rint) (fun _ _ _ => rint) (fun _ _ => .int _) (fun _ _ _ q => ⟨i, k, rfl, rfl, h.1, q⟩) h.2
theorem w2_mod (h : k ≠ 0 ∧ K (.int (i.fmod k)) m) : W2 W E oMod (.int i) (.int k) r m K := w2_val (fun _ _ _ => rint) (fun _ _ _ => rint) (fun _ _ => .int _) (fun _ _ _ q => ⟨i, k, rfl, rfl, h.1, q⟩) h.2
theorem w2_pow (h : CPow i k ∧ K (.int (i ^ k.toNat)) m) : W2 W E oPow (.int i) (.int k) r m K := w2_val (fun _ _ _ => rint) (fun _ _ _ => rint) (fun _ _ => .int _) (fun _ _ _ q => ⟨i, k, rfl, rfl, h.1, q⟩) h.2
theorem w2_lt (h : K (.bl (decide (i < k))) m) : W2 W E oLt (.int i) (.int k) r m K := w2_val (fun _ _ _ => rint) (fun _ _ _ => rint) (fun _ _ => .bl _) (fun _ _ _ q => ⟨i, k, rfl, rfl, q⟩) h
theorem w2_le (h : K (.bl (decide (i ≤ k))) m) : W2 W E oLe (.int i) (.int k) r m K := w2_val (fun _ _ _ => rint) (fun _ _ _ => rint) (fun _ _ => .bl _) (fun _ _ _ q => ⟨i, k, rfl, rfl, q⟩) h
theorem w2_gt (h : K (.bl (decide (k < i))) m) : W2 W E oGt (.int i) (.int k) r m K := w2_val (fun _ _ _ => rint) (fun _ _ _ => rint) (fun _ _ => .bl _) (fun _ _ _ q => ⟨i, k, rfl, rfl, q⟩) h
theorem w2_ge (h : K (.bl (decide (k ≤ i))) m) : W2 W E oGe (.int i) (.int k) r m K := w2_val (fun _ _ _ => rint) (fun _ _ _ => rint) (fun _ _ => .bl _) (fun _ _ _ q => ⟨i, k, rfl, rfl, q⟩) h
theorem w2_eqI (h : K (.bl (decide (i = k))) m) : W2 W E (oEq G j W) (.int i) (.int k) r m K := w2_val (fun _ _ _ => rint) (fun _ _ _ => rint) (fun _ _ => .bl _) (fun _ _ _ q => ⟨rfl, by rw [dec_int, ← Bool.beq_eq_decide_eq] at *; exact q⟩) h
theorem w2_neI (h : K (.bl (!decide (i = k))) m) : W2 W E (oNe G j W) (.int i) (.int k) r m K := w2_val (fun _ _ _ => rint) (fun _ _ _ => rint) (fun _ _ => .bl _) (fun _ _ _ q => ⟨rfl, by rw [dec_int, ← Bool.beq_eq_decide_eq] at *; exact q⟩) h
theorem w2_eqIH (h : K (.bl (decide (i = k))) m) : W2 W E oEqH (.int i) (.int k) r m K := w2_val (fun _ _ _ => rint) (fun _ _ _ => rint) (fun _ _ => .bl _) (fun _ _ _ q => ⟨rfl, by rw [dec_int, ← Bool.beq_eq_decide_eq] at *; exact q⟩) h
theorem w2_neIH (h : K (.bl (!decide (i = k))) m) : W2 W E oNeH (.int i) (.int k) r m K := w2_val (fun _ _ _ => rint) (fun _ _ _ => rint) (fun _ _ => .bl _) (fun _ _ _ q => ⟨rfl, by rw [dec_int, ← Bool.beq_eq_decide_eq] at *; exact q⟩) h
theorem w2_mulH (h : CMulX i k ∧ K (.int (i * k)) m) : W2 W E oMulH (.int i) (.int k) r m K := w2_val (fun _ _ _ => rint) (fun _ _ _ => rint) (fun _ _ => .int _) (fun _ _ _ q => ⟨i, k, rfl, rfl, h.1, q⟩) h.2
theorem w2_addH (h : K (.int (i + k)) m) : W2 W E oAddH (.int i) (.int k) r m K := w2_val (fun _ _ _ => rint) (fun _ _ _ => rint) (fun _ _ => .int _) (fun _ _ _ q => ⟨i, k, rfl, rfl, q⟩) h
theorem w2_subH (h : K (.int (i - k)) m) : W2 W E oSubH (.int i) (.int k) r m K := w2_val (fun _ _ _ => rint) (fun _ _ _ => rint) (fun _ _ => .int _) (fun _ _ _ q => ⟨i, k, rfl, rfl, q⟩) h
theorem w1_negH (h : K (.int (-i)) m) : W1 W E oNegH (.int i) r m K := fun s H Q v e z rv g => by
  cases rv
  exact ⟨i, rfl, g _ m _ H (Stp.refl _ _) e.mu (.int _) h⟩
def isNon : D → Bool
  | .non => true
  | _ => false
theorem rep_non {M : Addr → Prop} {H : Hp} {d : D} {v : V} (h : Rep M H d v) : decide (v = V.non) = isNon d := by
  cases h <;> rfl
theorem w2_isN {d : D} (h : K (.bl (isNon d)) m) : W2 W E oIs d .non r m K := fun s H Q a b e z ra rb g => by
  cases rb
  exact .inl ⟨rfl, g _ m _ H (Stp.refl _ _) e.mu (by rw [rep_non ra]; exact .bl _) h⟩
theorem w2_notN {d : D} (h : K (.bl (!isNon d)) m) : W2 W E oIsNot d .non r m K := fun s H Q a b e z ra rb g => by
  cases rb
  exact .inl ⟨rfl, g _ m _ H (Stp.refl _ _) e.mu (by rw [rep_non ra]; exact .bl _) h⟩
theorem w2_isB {a b : Bool} (h : K (.bl (decide (a = b))) m) : W2 W E oIs (.bl a) (.bl b) r m K := w2_val (fun _ _ _ => rbl) (fun _ _ _ => rbl) (fun _ _ => .bl _) (fun _ _ _ q => .inr ⟨a, b, rfl, rfl, q⟩) h
theorem w2_notB {a b : Bool} (h : K (.bl (!decide (a = b))) m) : W2 W E oIsNot (.bl a) (.bl b) r m K := w2_val (fun _ _ _ => rbl) (fun _ _ _ => rbl) (fun _ _ => .bl _) (fun _ _ _ q => .inr ⟨a, b, rfl, rfl, q⟩) h
theorem w1_neg (h : K (.int (-i)) m) : W1 W E (oNeg G j W) (.int i) r m K := fun s H Q v e z rv g => by
  cases rv
  exact .inl ⟨i, rfl, g _ m _ H (Stp.refl _ _) e.mu (.int _) h⟩
/-- the fields of an instance, fixed or mutable -/
inductive FldD : D → Mu → Addr → List Str → List D → Prop
  | fixed {m : Mu} {C : Addr} {ns : List Str} {ds : List D} : FldD (.ins C ns ds) m C ns ds
  | mutb {m : Mu} {C a : Addr} {ns : List Str} {ds : List D} (h : At m a (.ins C ns ds)) : FldD (.ref a) m C ns ds
theorem FldD.look {d : D} {m : Mu} {C : Addr} {ns : List Str} {ds : List D} {H : Hp} {v : V} (i : FldD d m C ns ds) (mu : MutR m H) (rp : Rep (dom m) H d v) : ∃ a dx gs, v = .ref a ∧ H a = some (.ins C dx gs) ∧ RepF (dom m) H ns ds gs := by
  cases i with
  | fixed =>
    cases rp with
    | ins mm h rf => exact ⟨_, _, _, rfl, h, rf⟩
  | mutb h =>
    cases rp
    have q := h.rep mu
    cases q with
    | ins h rf => exact ⟨_, _, _, rfl, h, rf⟩
theorem w2_own {d d' : D} {C : Addr} {ns ns' : List Str} {ds ds' : List D} {nm : Str} {k : Nat} {S : SpecD} (O : Opr G k C nm 2 S) (hk : k ≤ j) (i : FldD d m C ns ds) (i' : FldD d' m C ns' ds')
    (h : S [d, d'] m K fun x m' => E x r m') : W2 W E (oOwn2 G j W nm) d d' r m K := fun s H Q a b e z ra rb g => by
  obtain ⟨p, dx, gs, rfl, hp, _⟩ := i.look e.mu ra
  obtain ⟨p', dx', gs', rfl, hp', _⟩ := i'.look e.mu rb
  exact ⟨p, p', C, dx, dx', gs, gs', k, S, rfl, rfl, hp, hp', hk, O, spD_of rfl e z g (.cons ra (.cons rb .nil)) h fun _ _ q => q⟩
theorem w1_own {d : D} {C : Addr} {ns : List Str} {ds : List D} {nm : Str} {k : Nat} {S : SpecD} (O : Opr G k C nm 1 S) (hk : k ≤ j) (i : FldD d m C ns ds)
    (h : S [d] m K fun x m' => E x r m') : W1 W E (oOwn1 G j W nm) d r m K := fun s H Q a e z ra g => by
  obtain ⟨p, dx, gs, rfl, hp, _⟩ := i.look e.mu ra
  exact ⟨p, C, dx, gs, k, S, rfl, hp, hk, O, spD_of rfl e z g (.cons ra .nil) h fun _ _ q => q⟩
end
end DL
set_option Elab.async false
set_option linter.all false
set_option maxRecDepth 100000
/-! DL5: expressions, tests, statements, loops over trees. -/
namespace DL
open PySem PySem.Spec L2
open PyProof.Rows hiding St

section
variable {W : WX} {E : ET} {r : Rho} {m : Mu} {K : KT} {G : Gx} {j : Nat} {te ta tb tc : TE} {t u : TT} {a : TA} {o o' : O2} {o1 : O1} {oc : OC} {KB : Bool → Mu → Prop} {KA : List D → Mu → Prop}
/-! ### arguments, displays -/
theorem wa_nil (h : KA [] m) : Wa W E tNil r m KA := fun s H Q e z g => g [] m [] H (Stp.refl _ _) e.mu .nil h
theorem wa_cons (h : We W E te r m fun d m1 => Wa W E a r m1 fun ds m2 => KA (d :: ds) m2) : Wa W E (tCons te a) r m KA := fun s H Q e z g =>
  h s H _ e z fun d m1 v H1 s1 mu1 r1 q1 => q1 s H1 _ (e.step s1 mu1) (z.step s1) fun ds m2 vs H2 s2 mu2 r2 q2 => g _ m2 _ H2 (s1.trans s2) mu2 (.cons (r1.mono s2) r2) q2
theorem size_of {n : Nat} (h : Nat.ble n 1000 = true) : n ≤ sizeLine := Nat.le_trans (Nat.le_of_ble_eq_true h) (by decide)
theorem we_tup (h : Wa W E a r m fun ds m1 => Nat.ble ds.length 1000 = true ∧ K (.tup ds) m1) : We W E (tTup a) r m K := fun s H Q e z g =>
  h s H _ e z fun ds m1 vs H1 s1 mu1 r1 q1 => ⟨by rw [← r1.length]; exact size_of q1.1, fun p hp =>
    g _ m1 _ _ (s1.trans (Stp.new hp)) (mu1.new hp) (.tup (fun z => by obtain ⟨u, hu⟩ := mu1.there z; rw [hp] at hu; cases hu) (.inl upd_same) (r1.mono (Stp.new hp))) q1.2⟩
theorem we_lst (h : Wa W E a r m fun ds m1 => Nat.ble ds.length 1000 = true ∧ K (.lst ds) m1) : We W E (tLst a) r m K := fun s H Q e z g =>
  h s H _ e z fun ds m1 vs H1 s1 mu1 r1 q1 => ⟨by rw [← r1.length]; exact size_of q1.1, fun p hp =>
    g _ m1 _ _ (s1.trans (Stp.new hp)) (mu1.new hp) (.lst (fun z => by obtain ⟨u, hu⟩ := mu1.there z; rw [hp] at hu; cases hu) (.inl upd_same) (r1.mono (Stp.new hp))) q1.2⟩
/-- a list that will be changed -/
theorem we_lstM (h : Wa W E a r m fun ds m1 => Nat.ble ds.length 1000 = true ∧ ∀ p, ¬ dom m1 p → K (.ref p) ((p, .lst ds) :: m1)) : We W E (tLst a) r m K := fun s H Q e z g =>
  h s H _ e z fun ds m1 vs H1 s1 mu1 r1 q1 => ⟨by rw [← r1.length]; exact size_of q1.1, fun p hp =>
    g _ _ _ _ (s1.trans (Stp.newM (x := .lst ds) hp)) (mu1.newM hp (.lst upd_same (r1.mono (Stp.newM hp)))) (.ref p) (q1.2 p fun z => by obtain ⟨u, hu⟩ := mu1.there z; rw [hp] at hu; cases hu)⟩

/-! ### fields -/
theorem we_fld {f : Str} (h : We W E te r m fun d m1 => ∃ C ns ds x, FldD d m1 C ns ds ∧ Cls G.K C ∧ NoAttr G.K C f ∧ fix f ns ds = some x ∧ K x m1) : We W E (tFld G.K te f) r m K := fun s H Q e z g =>
  h s H _ e z fun d m1 v H1 s1 mu1 r1 q => by
    obtain ⟨C, ns, ds, x, i, c, n, hf, k⟩ := q
    obtain ⟨p, dx, gs, rfl, hp, rf⟩ := i.look mu1 r1
    obtain ⟨y, h1, h2⟩ := rf.look hf
    exact ⟨p, C, dx, gs, y, rfl, hp, c, n, h1, g x m1 y H1 s1 mu1 h2 k⟩

/-! ### subscripts -/
theorem atI_reps {M : Addr → Prop} {H : Hp} {ds : List D} {vs : List V} {i : Int} {d : D} (h : Reps M H ds vs) (e : atI ds i = some d) : ∃ v, atI vs i = some v ∧ Rep M H d v := by
  unfold atI at *
  rw [h.length] at e
  cases q : ixN vs.length i with
  | none => rw [q] at e; cases e
  | some k =>
    rw [q] at e
    exact h.get e
abbrev oIx (G : Gx) : O2 := fun x y _ H Q => rIx G.K x y H Q
theorem rd_l {K : PySem.W.Frag} {H : Hp} {a : Addr} {vs : List V} (h : Rd H a (.lst vs)) : SqL K H a vs := .inl h
theorem rd_t {K : PySem.W.Frag} {H : Hp} {a : Addr} {vs : List V} (h : Rd H a (.tup vs)) : SqT K H a vs := .inl h
theorem w2_ixT {ds : List D} {i : Int} {d : D} (h : atI ds i = some d ∧ K d m) : W2 W E (oIx G) (.tup ds) (.int i) r m K := fun s H Q x y e z rx ry g => by
  cases ry
  cases rx with
  | tup mm hh rs =>
    obtain ⟨v, h1, h2⟩ := atI_reps rs h.1
    exact .inr (.inl ⟨_, _, i, v, rfl, rfl, rd_t hh, h1, g d m v H (Stp.refl _ _) e.mu h2 h.2⟩)
theorem w2_ixL {ds : List D} {i : Int} {d : D} (h : atI ds i = some d ∧ K d m) : W2 W E (oIx G) (.lst ds) (.int i) r m K := fun s H Q x y e z rx ry g => by
  cases ry
  cases rx with
  | lst mm hh rs =>
    obtain ⟨v, h1, h2⟩ := atI_reps rs h.1
    exact .inl ⟨_, _, i, v, rfl, rfl, rd_l hh, h1, g d m v H (Stp.refl _ _) e.mu h2 h.2⟩
theorem w2_ixM {p : Addr} {ds : List D} {i : Int} {d : D} (hp : At m p (.lst ds)) (h : atI ds i = some d ∧ K d m) : W2 W E (oIx G) (.ref p) (.int i) r m K := fun s H Q x y e z rx ry g => by
  cases ry
  cases rx
  have q := hp.rep e.mu
  cases q with
  | lst hh rs =>
    obtain ⟨v, h1, h2⟩ := atI_reps rs h.1
    exact .inl ⟨_, _, i, v, rfl, rfl, SqL.of hh, h1, g d m v H (Stp.refl _ _) e.mu h2 h.2⟩
theorem we_op {rr : R2} (h : We W E ta r m fun x m1 => We W E tb r m1 fun y m2 => W2 W E (fun x y _ H Q => rr x y H Q) x y r m2 K) : We W E (tOp rr ta tb) r m K := we_2 h

/-! ### chains, truth -/
theorem we_3 (h : We W E ta r m fun x m1 => We W E tb r m1 fun y m2 => W2 W E o x y r m2 fun d m3 => ∃ b, d = .bl b ∧ (b = true → We W E tc r m3 fun w m4 => W2 W E o' y w r m4 K) ∧ (b = false → K (.bl false) m3)) : We W E (t3 o o' ta tb tc) r m K := fun s H Q e z g =>
  h s H _ e z fun x m1 v H1 s1 mu1 r1 h1 => h1 s H1 _ (e.step s1 mu1) (z.step s1) fun y m2 w H2 s2 mu2 r2 h2 => by
    have e2 := (e.step s1 mu1).step s2 mu2
    have z2 := (z.step s1).step s2
    refine h2 s H2 _ v w e2 z2 (r1.mono s2) r2 fun d m3 c H3 s3 mu3 r3 h3 => ?_
    obtain ⟨b, rfl, ht, hf⟩ := h3
    cases r3
    refine ⟨b, rfl, ?_⟩
    cases b with
    | true =>
      rw [if_pos rfl]
      exact ht rfl s H3 _ (e2.step s3 mu3) (z2.step s3) fun w' m4 cv H4 s4 mu4 r4 h4 =>
        h4 s H4 Q w cv ((e2.step s3 mu3).step s4 mu4) ((z2.step s3).step s4) ((r2.mono s3).mono s4) r4 ((((g.step s1).step s2).step s3).step s4)
    | false =>
      rw [if_neg Bool.false_ne_true]
      exact g _ m3 _ H3 ((s1.trans s2).trans s3) mu3 (.bl _) (hf rfl)
theorem wt_test (h : We W E te r m fun d m1 => ∃ b, d = .bl b ∧ KB b m1) : Wt W E (tTest te) r m KB := fun s H Q e z g =>
  h s H _ e z fun d m1 v H1 s1 mu1 r1 q => by
    obtain ⟨b, rfl, k⟩ := q
    cases r1
    exact ⟨b, rfl, g b m1 H1 s1 mu1 k⟩
theorem wt_B (h : We W E te r m fun d m1 => ∃ b, d = .bl b ∧ KB b m1) : Wt W E (tB te) r m KB := wt_test h
/-- the truth of a tree -/
inductive TruD : D → Mu → Bool → Prop
  | non {m : Mu} : TruD .non m false
  | bl {m : Mu} {b : Bool} : TruD (.bl b) m b
  | int {m : Mu} {i : Int} : TruD (.int i) m (i != 0)
  | tup {m : Mu} {xs : List D} : TruD (.tup xs) m (!xs.isEmpty)
  | lst {m : Mu} {xs : List D} : TruD (.lst xs) m (!xs.isEmpty)
  | mutb {m : Mu} {p : Addr} {xs : List D} (h : At m p (.lst xs)) : TruD (.ref p) m (!xs.isEmpty)
theorem reps_empty {M : Addr → Prop} {H : Hp} {ds : List D} {vs : List V} (h : Reps M H ds vs) : ds.isEmpty = vs.isEmpty := by cases h <;> rfl
theorem TruD.ok {d : D} {b : Bool} {H : Hp} {v : V} (h : TruD d m b) (mu : MutR m H) (rp : Rep (dom m) H d v) : TruV G.K v H b := by
  cases h with
  | non => cases rp; rfl
  | bl => cases rp; rfl
  | int => cases rp; rfl
  | tup =>
    cases rp with
    | tup mm hh rs => exact .inr (.inl ⟨_, rd_t hh, by rw [reps_empty rs]⟩)
  | lst =>
    cases rp with
    | lst mm hh rs => exact .inl ⟨_, rd_l hh, by rw [reps_empty rs]⟩
  | mutb h =>
    cases rp
    have q := h.rep mu
    cases q with
    | lst hh rs => exact .inl ⟨_, SqL.of hh, by rw [reps_empty rs]⟩
theorem wt_tr (h : We W E te r m fun d m1 => ∃ b, TruD d m1 b ∧ KB b m1) : Wt W E (tTr G.K te) r m KB := fun s H Q e z g =>
  h s H _ e z fun d m1 v H1 s1 mu1 r1 q => by
    obtain ⟨b, t, k⟩ := q
    exact ⟨b, t.ok mu1 r1, g b m1 H1 s1 mu1 k⟩
theorem wt_and (h : Wt W E t r m fun b m1 => (b = true → Wt W E u r m1 KB) ∧ (b = false → KB false m1)) : Wt W E (tAnd t u) r m KB := fun s H Q e z g =>
  h s H _ e z fun b m1 H1 s1 mu1 q => by
    cases b with
    | true => exact q.1 rfl s H1 Q (e.step s1 mu1) (z.step s1) fun b m2 H2 a c k => g b m2 H2 (s1.trans a) c k
    | false => exact g false m1 H1 s1 mu1 (q.2 rfl)
theorem wt_or (h : Wt W E t r m fun b m1 => (b = true → KB true m1) ∧ (b = false → Wt W E u r m1 KB)) : Wt W E (tOr t u) r m KB := fun s H Q e z g =>
  h s H _ e z fun b m1 H1 s1 mu1 q => by
    cases b with
    | true => exact g true m1 H1 s1 mu1 (q.1 rfl)
    | false => exact q.2 rfl s H1 Q (e.step s1 mu1) (z.step s1) fun b m2 H2 a c k => g b m2 H2 (s1.trans a) c k
theorem wt_not (h : Wt W E t r m fun b m1 => KB (!b) m1) : Wt W E (tNot t) r m KB := fun s H Q e z g =>
  h s H _ e z fun b m1 H1 s1 mu1 q => g (!b) m1 H1 s1 mu1 q
theorem we_andV (h : We W E ta r m fun d m1 => ∃ b, d = .bl b ∧ (b = true → We W E tb r m1 K) ∧ (b = false → K (.bl false) m1)) : We W E (tAndV ta tb) r m K := fun s H Q e z g =>
  h s H _ e z fun d m1 v H1 s1 mu1 r1 q => by
    obtain ⟨b, rfl, ht, hf⟩ := q
    cases r1
    refine ⟨b, rfl, ?_⟩
    cases b with
    | true =>
      rw [if_pos rfl]
      exact ht rfl s H1 Q (e.step s1 mu1) (z.step s1) (g.step s1)
    | false =>
      rw [if_neg Bool.false_ne_true]
      exact g _ m1 _ H1 s1 mu1 (.bl _) (hf rfl)
theorem we_orV (h : We W E ta r m fun d m1 => ∃ b, d = .bl b ∧ (b = true → K (.bl true) m1) ∧ (b = false → We W E tb r m1 K)) : We W E (tOrV ta tb) r m K := fun s H Q e z g =>
  h s H _ e z fun d m1 v H1 s1 mu1 r1 q => by
    obtain ⟨b, rfl, ht, hf⟩ := q
    cases r1
    refine ⟨b, rfl, ?_⟩
    cases b with
    | false =>
      rw [if_neg Bool.false_ne_true]
      exact hf rfl s H1 Q (e.step s1 mu1) (z.step s1) (g.step s1)
    | true =>
      rw [if_pos rfl]
      exact g _ m1 _ H1 s1 mu1 (.bl _) (ht rfl)
theorem we_notV (h : We W E te r m fun d m1 => ∃ b, d = .bl b ∧ K (.bl (!b)) m1) : We W E (tNotV te) r m K := fun s H Q e z g =>
  h s H _ e z fun d m1 v H1 s1 mu1 r1 q => by
    obtain ⟨b, rfl, k⟩ := q
    cases r1
    exact ⟨b, rfl, g _ m1 _ H1 s1 mu1 (.bl _) k⟩
theorem we_ifx (h : Wt W E t r m fun b m1 => (b = true → We W E ta r m1 K) ∧ (b = false → We W E tb r m1 K)) : We W E (tIf t ta tb) r m K := fun s H Q e z g =>
  h s H _ e z fun b m1 H1 s1 mu1 q => by
    cases b with
    | true => exact q.1 rfl s H1 Q (e.step s1 mu1) (z.step s1) (g.step s1)
    | false => exact q.2 rfl s H1 Q (e.step s1 mu1) (z.step s1) (g.step s1)

/-! ### calls of built-ins -/
def Wc (W : WX) (E : ET) (oc : OC) (ds : List D) (r : Rho) (m : Mu) (K : KT) : Prop := ∀ s H Q vs, EnvR r m s H → Rz W E m H → Reps (dom m) H ds vs → Go m H K Q → oc vs s H Q
theorem we_c2 (h : Wa W E a r m fun ds m1 => Wc W E oc ds r m1 K) : We W E (tC2 oc a) r m K := fun s H Q e z g =>
  h s H _ e z fun ds m1 vs H1 s1 mu1 r1 q => q s H1 Q vs (e.step s1 mu1) (z.step s1) r1 (g.step s1)
end

/-! ### statements -/
section
variable {W : WX} {E : ET} {r : Rho} {m : Mu} {P : DEnds} {G : Gx} {te to : TE} {tt : TT} {ts tu : TS} {i : Nat}
theorem ws_next (h : P.nx r m) : Ws W E tNext r m P := fun s H De e z g => g.nx r m s H (Stp.refl _ _) e h
theorem ws_brk (h : P.bk r m) : Ws W E tBreak r m P := fun s H De e z g => g.bk r m s H (Stp.refl _ _) e h
theorem ws_cont (h : P.ct r m) : Ws W E tCont r m P := fun s H De e z g => g.ct r m s H (Stp.refl _ _) e h
theorem ws_seq (h : Ws W E ts r m { P with nx := fun r' m' => Ws W E tu r' m' P }) : Ws W E (tSeq ts tu) r m P := fun s H De e z g =>
  h s H _ e z ⟨fun r' m' s' H' a b q => q s' H' De b (z.step a) (g.step a), g.rt, g.bk, g.ct⟩
theorem ws_ret (h : We W E te r m P.rt) : Ws W E (tRet te) r m P := fun s H De e z g => h s H _ e z fun d m' v H' a b c k => g.rt d m' v H' a b c k
theorem ws_retN (h : P.rt .non m) : Ws W E tRetN r m P := fun s H De e z g => g.rt .non m .non H (Stp.refl _ _) e.mu .non h
theorem ws_drop (h : We W E te r m fun _ m' => P.nx r m') : Ws W E (tDrop te) r m P := fun s H De e z g => h s H _ e z fun d m' v H' a b c k => g.nx r m' s H' a (e.step a b) k
theorem ws_if (h : Wt W E tt r m fun b m1 => (b = true → Ws W E ts r m1 P) ∧ (b = false → Ws W E tu r m1 P)) : Ws W E (tIfS tt ts tu) r m P := fun s H De e z g =>
  h s H _ e z fun b m1 H1 s1 mu1 q => by
    cases b with
    | true => exact q.1 rfl s H1 De (e.step s1 mu1) (z.step s1) (g.step s1)
    | false => exact q.2 rfl s H1 De (e.step s1 mu1) (z.step s1) (g.step s1)
/-- targets -/
def Wg (W : WX) (E : ET) (g : TG) (d : D) (r : Rho) (m : Mu) (N : Rho → Mu → Prop) : Prop := ∀ s H v Q, EnvR r m s H → Rz W E m H → Rep (dom m) H d v →
  (∀ r' m' s' H', Stp (dom m) H (dom m') H' → EnvR r' m' s' H' → N r' m' → Q s' H') → g v s H Q
def Wgs (W : WX) (E : ET) (g : TGs) (ds : List D) (r : Rho) (m : Mu) (N : Rho → Mu → Prop) : Prop := ∀ s H vs Q, EnvR r m s H → Rz W E m H → Reps (dom m) H ds vs →
  (∀ r' m' s' H', Stp (dom m) H (dom m') H' → EnvR r' m' s' H' → N r' m' → Q s' H') → g vs s H Q
variable {N : Rho → Mu → Prop}
theorem EnvR.put {s : L2.St} {H : Hp} {d : D} {v : V} (e : EnvR r m s H) (rd : Rep (dom m) H d v) : EnvR (r.set i (some d)) m (s.set i (some v)) H := ⟨e.env.set (.some rd) i, e.mu⟩
theorem wg_name {d : D} (h : N (r.set i (some d)) m) : Wg W E (gName i) d r m N := fun s H v Q e z rd g => g _ m _ H (Stp.refl _ _) (e.put rd) h
theorem wgs_nil (h : N r m) : Wgs W E gNil [] r m N := fun s H vs Q e z rd g => by
  cases rd
  exact ⟨rfl, g r m s H (Stp.refl _ _) e h⟩
theorem wgs_cons {g1 : TG} {gs : TGs} {d : D} {ds : List D} (h : Wg W E g1 d r m fun r' m' => Wgs W E gs ds r' m' N) : Wgs W E (gCons g1 gs) (d :: ds) r m N := fun s H vs Q e z rd g => by
  cases rd with
  | cons r1 rt =>
    exact ⟨_, _, rfl, h s H _ _ e z r1 fun r' m' s' H' a b q => q s' H' _ Q b (z.step a) (rt.mono a) fun r2 m2 s2 H2 a2 b2 q2 => g r2 m2 s2 H2 (a.trans a2) b2 q2⟩
theorem wg_tup {gs : TGs} {n : Nat} {ds : List D} (hn : ds.length = n) (h : Wgs W E gs ds r m N) : Wg W E (gTup G.K n gs) (.tup ds) r m N := fun s H v Q e z rd g => by
  cases rd with
  | tup mm hh rs => exact ⟨_, _, rfl, rd_t hh, by rw [← rs.length, hn], h s H _ Q e z rs g⟩
theorem ixN_reps {n k : Nat} {i : Int} (h : ixN n i = some k) : k < n := by
  unfold ixN at h
  split at h
  · split at h
    · cases h; omega
    · cases h
  · split at h
    · cases h; omega
    · cases h
theorem wg_subM {ti : TE} {d : D} (h : We W E to r m fun o m1 => We W E ti r m1 fun i m2 => ∃ p xs k j m3, o = .ref p ∧ i = .int k ∧ At m2 p (.lst xs) ∧ ixN xs.length k = some j ∧ Put m2 p (.lst (xs.set j d)) m3 ∧ N r m3) : Wg W E (gSub to ti rSetL) d r m N := fun s H v Q e z rd g =>
  h s H _ e z fun o m1 vo H1 s1 mu1 r1 q1 => q1 s H1 _ (e.step s1 mu1) (z.step s1) fun i m2 vi H2 s2 mu2 r2 q2 => by
    obtain ⟨p, xs, k, j, m3, rfl, rfl, ha, hj, hp, hn⟩ := q2
    cases r1
    cases r2
    have q := ha.rep mu2
    cases q with
    | lst hh rs =>
      have rd2 := (rd.mono s1).mono s2
      refine ⟨p, _, k, j, rfl, rfl, hh, by rw [← rs.length]; exact hj, ?_⟩
      have st : ∀ o, Stp (dom m2) H2 (dom m3) (upd H2 p o) := fun o => hp.stp
      exact g r m3 s _ ((s1.trans s2).trans (st _)) (((e.step s1 mu1).step s2 mu2).step (st _) (hp.mut mu2 (.lst upd_same ((rs.set rd2 j).mono (st _))))) hn
theorem ws_asg {g : TG} (h : We W E te r m fun d m1 => Wg W E g d r m1 P.nx) : Ws W E (tAsg te g) r m P := fun s H De e z gg =>
  h s H _ e z fun d m1 v H1 s1 mu1 r1 q => q s H1 v De.nx (e.step s1 mu1) (z.step s1) r1 fun r' m' s' H' a b k => gg.nx r' m' s' H' (s1.trans a) b k
theorem ws_par {j : Nat} {a : TA} (h : Wa W E a r m fun ds m1 => ∃ x y, ds = [x, y] ∧ P.nx ((r.set i (some x)).set j (some y)) m1) : Ws W E (tPar i j a) r m P := fun s H De e z g =>
  h s H _ e z fun ds m1 vs H1 s1 mu1 r1 q => by
    obtain ⟨x, y, rfl, k⟩ := q
    cases r1 with
    | cons ra t =>
      cases t with
      | cons rb t =>
        cases t
        exact ⟨_, _, rfl, g.nx _ m1 _ H1 s1 (((e.step s1 mu1).put ra).put rb) k⟩
theorem ws_par3 {j l : Nat} {a : TA} (h : Wa W E a r m fun ds m1 => ∃ x y w, ds = [x, y, w] ∧ P.nx (((r.set i (some x)).set j (some y)).set l (some w)) m1) : Ws W E (tPar3 i j l a) r m P := fun s H De e z g =>
  h s H _ e z fun ds m1 vs H1 s1 mu1 r1 q => by
    obtain ⟨x, y, w, rfl, k⟩ := q
    cases r1 with
    | cons ra t =>
      cases t with
      | cons rb t =>
        cases t with
        | cons rc t =>
          cases t
          exact ⟨_, _, _, rfl, g.nx _ m1 _ H1 s1 ((((e.step s1 mu1).put ra).put rb).put rc) k⟩
/-- self.f = e, a new field -/
theorem putF_new {f : Str} {y : V} : ∀ {fs : List (Str × V)}, f ∉ fs.map (·.1) → putF f y fs = fs ++ [(f, y)]
  | [], _ => rfl
  | (g, v) :: fs, h => by
    have ne : ¬ g = f := fun e => h (by simp [e])
    show (if g = f then _ else _) = _
    rw [if_neg ne, putF_new (fun z => h (by simp [z]))]
    rfl
theorem RepF.snoc {M : Addr → Prop} {H : Hp} {f : Str} {x : D} {y : V} (q : Rep M H x y) : ∀ {n : List Str} {d : List D} {v : List (Str × V)}, RepF M H n d v → RepF M H (n ++ [f]) (d ++ [x]) (v ++ [(f, y)])
  | _, _, _, .nil => .cons q .nil
  | _, _, _, .cons r t => .cons r (RepF.snoc q t)
theorem RepF.lens {M : Addr → Prop} {H : Hp} {n : List Str} {d : List D} {v : List (Str × V)} (h : RepF M H n d v) : v.length = n.length := by rw [← h.names, List.length_map]
theorem ws_fldN {f : Str} (h : We W E te r m fun d m1 => We W E to r m1 fun o m2 => ∃ p C ns ds m3, o = .ref p ∧ At m2 p (.ins C ns ds) ∧ Cls G.K C ∧ NoAttr G.K C f ∧ ns.contains f = false ∧ Nat.ble ns.length 900 = true ∧ Put m2 p (.ins C (ns ++ [f]) (ds ++ [d])) m3 ∧ P.nx r m3) : Ws W E (sFld G.K to te f) r m P := fun s H De e z g =>
  h s H _ e z fun d m1 v H1 s1 mu1 r1 q1 => q1 s H1 _ (e.step s1 mu1) (z.step s1) fun o m2 vo H2 s2 mu2 r2 q2 => by
    obtain ⟨p, C, ns, ds, m3, rfl, ha, hc, hn, hf, hl, hp, k⟩ := q2
    cases r2
    have q := ha.rep mu2
    cases q with
    | ins hh rf =>
      have st : ∀ o, Stp (dom m2) H2 (dom m3) (upd H2 p o) := fun o => hp.stp
      have nf : f ∉ List.map (fun q : Str × V => q.1) _ := fun zz => by
        rw [rf.names] at zz
        rw [List.contains_iff_mem.mpr zz] at hf
        cases hf
      refine ⟨p, C, _, _, rfl, hh, hc, hn, by rw [rf.lens]; have := Nat.le_of_ble_eq_true hl; omega, ?_⟩
      rw [putF_new nf]
      exact g.nx r m3 s _ ((s1.trans s2).trans (st _)) (((e.step s1 mu1).step s2 mu2).step (st _) (hp.mut mu2 (.ins upd_same ((rf.snoc (r1.mono s2)).mono (st _))))) k
end

/-! ### loops -/
section
variable {W : WX} {E : ET} {r : Rho} {m : Mu} {P : DEnds} {G : Gx} {te : TE} {ta : TA} {tt : TT} {tb : TS} {i : Nat}
theorem goL {m0 : Mu} {H0 : Hp} {De : Ends} {nx : L2.St → Hp → Prop} {Nx : Rho → Mu → Prop} (g : GoS m0 H0 P De) {H : Hp} {m : Mu} (st : Stp (dom m0) H0 (dom m) H)
    (h : ∀ r' m' s' H', Stp (dom m) H (dom m') H' → EnvR r' m' s' H' → Nx r' m' → nx s' H') : GoS m H { nx := Nx, rt := P.rt, bk := P.nx, ct := Nx } { De with nx := nx, ct := nx, bk := De.nx } :=
  ⟨h, fun d m' v H' a b c q => g.rt d m' v H' (st.trans a) b c q, fun r' m' s' H' a b q => g.nx r' m' s' H' (st.trans a) b q, h⟩
theorem ws_range1 (h : Wa W E ta r m fun ds m1 => ∃ (j : Int) (I : Nat → Rho → Mu → Prop), ds = [.int j] ∧ (-(2 ^ 62) ≤ j ∧ j < 2 ^ 62) ∧ I 0 r m1 ∧
    (∀ k r' m', k < j.toNat → I k r' m' → Ws W E tb (r'.set i (some (.int (k : Int)))) m' { nx := I (k + 1), rt := P.rt, bk := P.nx, ct := I (k + 1) }) ∧ (∀ r' m', I j.toNat r' m' → P.nx r' m')) :
    Ws W E (tFor (iRng1 ta) (gName i) tb) r m P := fun s H De e z g =>
  h s H _ e z fun ds m1 vs H1 s1 mu1 r1 q => by
    obtain ⟨j, I, rfl, ⟨b1, b2⟩, h0, hs, hd⟩ := q
    cases r1 with
    | cons ra t =>
      cases t
      cases ra
      refine ⟨j, rfl, b1, b2, ?_⟩
      refine for_range (lo := 0) (n := j.toNat) (fun k s' H' => ∃ r' m', Stp (dom m) H (dom m') H' ∧ EnvR r' m' s' H' ∧ I k r' m') ⟨r, m1, s1, e.step s1 mu1, h0⟩ (fun k s' H' hk ⟨r', m', st, e', hi⟩ => ?_) (fun s' H' ⟨r', m', st, e', hi⟩ => g.nx r' m' s' H' st e' (hd r' m' hi))
      have q := hs k r' m' hk hi
      show tb _ (s'.set i (some (.int (0 + (k : Int))))) H'
      rw [Int.zero_add]
      exact q _ H' _ (e'.put (.int _)) (z.step st) (goL g st fun r2 m2 s2 H2 a b c => ⟨r2, m2, st.trans a, b, c⟩)
theorem ws_range2 (h : Wa W E ta r m fun ds m1 => ∃ (l j : Int) (I : Nat → Rho → Mu → Prop), ds = [.int l, .int j] ∧ (-(2 ^ 62) ≤ l ∧ l < 2 ^ 62 ∧ -(2 ^ 62) ≤ j ∧ j < 2 ^ 62) ∧ I 0 r m1 ∧
    (∀ k r' m', k < (j - l).toNat → I k r' m' → Ws W E tb (r'.set i (some (.int (l + (k : Int))))) m' { nx := I (k + 1), rt := P.rt, bk := P.nx, ct := I (k + 1) }) ∧ (∀ r' m', I (j - l).toNat r' m' → P.nx r' m')) :
    Ws W E (tFor (iRng2 ta) (gName i) tb) r m P := fun s H De e z g =>
  h s H _ e z fun ds m1 vs H1 s1 mu1 r1 q => by
    obtain ⟨l, j, I, rfl, b1, h0, hs, hd⟩ := q
    cases r1 with
    | cons ra t =>
      cases t with
      | cons rb t =>
        cases t
        cases ra
        cases rb
        refine ⟨l, j, rfl, b1, ?_⟩
        refine for_range (lo := l) (n := (j - l).toNat) (fun k s' H' => ∃ r' m', Stp (dom m) H (dom m') H' ∧ EnvR r' m' s' H' ∧ I k r' m') ⟨r, m1, s1, e.step s1 mu1, h0⟩ (fun k s' H' hk ⟨r', m', st, e', hi⟩ => ?_) (fun s' H' ⟨r', m', st, e', hi⟩ => g.nx r' m' s' H' st e' (hd r' m' hi))
        exact hs k r' m' hk hi _ H' _ (e'.put (.int _)) (z.step st) (goL g st fun r2 m2 s2 H2 a b c => ⟨r2, m2, st.trans a, b, c⟩)
/-- for over a list or a tuple -/
def iSeq (K : PySem.W.Frag) (tl : TE) : TI := fun σ H R => tl σ H fun x H1 => (∃ a, x = .ref a ∧ (∃ xs, SqL K H1 a xs) ∧ R (Itl K a) H1) ∨ (∃ a, x = .ref a ∧ (∃ xs, SqT K H1 a xs) ∧ R (Itt K a) H1)
theorem pi_seq {X : Cx} {tg l : Expr} {tl : TE} (hl : PE X l tl) : PI X tg l (iSeq X.K tl) := by
  refine ⟨fun pins s σ H R I h => ?_⟩
  refine thn (hl.run pins s σ H _ I h) fun v s1 ⟨x, H1, I1, r1, q1⟩ => ?_
  rcases q1 with ⟨a, e, ⟨xs, hq⟩, q⟩ | ⟨a, e, ⟨xs, hq⟩, q⟩
  · subst e
    cases r1
    obtain ⟨its, rv, p, hz⟩ := I1.list hq
    refine wpAny_pyIter_list p.isList ?_
    refine ⟨s1.heap.objs.size, [s1.heap.objs.size], _, _, H1, rfl, I1.kept (t' := s1.toks) fun b o e => Heap.get?_push_of_some _ e, turn_list a _, ⟨_, Heap.get?_push_size _ rfl, rfl, rfl⟩, fun b hb => ?_, q⟩
    have e : b = s1.heap.objs.size := by simpa using hb
    subst e
    exact I1.fpOk (Nat.le_refl _) (I1.hok.fresh (Nat.le_refl _))
  · subst e
    cases r1
    obtain ⟨its, rv, p, hz⟩ := I1.tuple hq
    refine wpAny_pyIter_tuple (show s1.heap.IsTuple a its.toArray from p) ?_
    refine ⟨s1.heap.objs.size, [s1.heap.objs.size], _, _, H1, rfl, I1.kept (t' := s1.toks) fun b o e => Heap.get?_push_of_some _ e, turn_tuple a _, ⟨_, Heap.get?_push_size _ rfl, rfl, rfl⟩, fun b hb => ?_, q⟩
    have e : b = s1.heap.objs.size := by simpa using hb
    subst e
    exact I1.fpOk (Nat.le_refl _) (I1.hok.fresh (Nat.le_refl _))
inductive SeqD : D → List D → Prop
  | lst {xs : List D} : SeqD (.lst xs) xs
  | tup {xs : List D} : SeqD (.tup xs) xs
/-- by an invariant -/
theorem ws_seqI {g : TG} (h : We W E te r m fun d m1 => ∃ (xs : List D) (I : Nat → Rho → Mu → Prop), SeqD d xs ∧ I 0 r m1 ∧
    (∀ k x r' m', xs[k]? = some x → I k r' m' → Wg W E g x r' m' fun r2 m2 => Ws W E tb r2 m2 { nx := I (k + 1), rt := P.rt, bk := P.nx, ct := I (k + 1) }) ∧ (∀ r' m', I xs.length r' m' → P.nx r' m')) :
    Ws W E (tFor (iSeq G.K te) g tb) r m P := fun s H De e z gg =>
  h s H _ e z fun d m1 v H1 s1 mu1 r1 q => by
    obtain ⟨xs, I, sd, h0, hs, hd⟩ := q
    cases sd with
    | lst =>
      cases r1 with
      | @lst a _ vs mm hh rs =>
        refine .inl ⟨a, rfl, ⟨_, rd_l hh⟩, ?_⟩
        refine for_list (xs := vs) (fun k s' H' => ∃ r' m', Stp (dom m1) H1 (dom m') H' ∧ EnvR r' m' s' H' ∧ I k r' m') ⟨r, m1, Stp.refl _ _, e.step s1 mu1, h0⟩ (fun k s' H' _ ⟨r', m', st1, e', hi⟩ => rd_l (st1.rd mm hh).1)
          (fun k x s' H' hx ⟨r', m', st1, e', hi⟩ => ?_) (fun s' H' ⟨r', m', st1, e', hi⟩ => gg.nx r' m' s' H' (s1.trans st1) e' (hd r' m' (by rw [rs.length]; exact hi)))
        obtain ⟨d, hd1, hd2⟩ := rs.getV hx
        refine hs k d r' m' hd1 hi s' H' x _ e' (z.step (s1.trans st1)) (hd2.mono st1) fun r2 m2 s2 H2 st2 e2 q2 => ?_
        exact q2 s2 H2 _ e2 (z.step (s1.trans (st1.trans st2))) (goL gg (s1.trans (st1.trans st2)) fun r3 m3 s3 H3 a3 b3 c3 => ⟨r3, m3, st1.trans (st2.trans a3), b3, c3⟩)
    | tup =>
      cases r1 with
      | @tup a _ vs mm hh rs =>
        refine .inr ⟨a, rfl, ⟨_, rd_t hh⟩, ?_⟩
        refine for_tup (xs := vs) (fun k s' H' => ∃ r' m', Stp (dom m1) H1 (dom m') H' ∧ EnvR r' m' s' H' ∧ I k r' m') ⟨r, m1, Stp.refl _ _, e.step s1 mu1, h0⟩ (fun k s' H' _ ⟨r', m', st1, e', hi⟩ => rd_t (st1.rd mm hh).1)
          (fun k x s' H' hx ⟨r', m', st1, e', hi⟩ => ?_) (fun s' H' ⟨r', m', st1, e', hi⟩ => gg.nx r' m' s' H' (s1.trans st1) e' (hd r' m' (by rw [rs.length]; exact hi)))
        obtain ⟨d, hd1, hd2⟩ := rs.getV hx
        refine hs k d r' m' hd1 hi s' H' x _ e' (z.step (s1.trans st1)) (hd2.mono st1) fun r2 m2 s2 H2 st2 e2 q2 => ?_
        exact q2 s2 H2 _ e2 (z.step (s1.trans (st1.trans st2))) (goL gg (s1.trans (st1.trans st2)) fun r3 m3 s3 H3 a3 b3 c3 => ⟨r3, m3, st1.trans (st2.trans a3), b3, c3⟩)
/-- turn by turn, the target a name -/
def ForL (W : WX) (E : ET) (i : Nat) (tb : TS) (P : DEnds) : List D → Rho → Mu → Prop
  | [], r, m => P.nx r m
  | x :: xs, r, m => Ws W E tb (r.set i (some x)) m { nx := ForL W E i tb P xs, rt := P.rt, bk := P.nx, ct := ForL W E i tb P xs }
theorem ws_seqU (h : We W E te r m fun d m1 => ∃ xs, SeqD d xs ∧ ForL W E i tb P xs r m1) : Ws W E (tFor (iSeq G.K te) (gName i) tb) r m P :=
  ws_seqI (h.imp fun d m1 ⟨xs, sd, q⟩ => ⟨xs, fun k r' m' => ForL W E i tb P (xs.drop k) r' m', sd, (show ForL W E i tb P (xs.drop 0) r m1 by rw [List.drop_zero]; exact q), fun k x r' m' hx hi => by
    obtain ⟨hk, hx'⟩ := List.getElem?_eq_some_iff.mp hx
    have hi2 : ForL W E i tb P (xs.drop k) r' m' := hi
    rw [List.drop_eq_getElem_cons hk, hx'] at hi2
    exact wg_name hi2, fun r' m' hi => by
    have hi2 : ForL W E i tb P (xs.drop xs.length) r' m' := hi
    rw [List.drop_length] at hi2
    exact hi2⟩)
theorem forL_nil {r : Rho} {m : Mu} (h : P.nx r m) : ForL W E i tb P [] r m := h
theorem forL_cons {x : D} {xs : List D} {r : Rho} {m : Mu} (h : Ws W E tb (r.set i (some x)) m { nx := ForL W E i tb P xs, rt := P.rt, bk := P.nx, ct := ForL W E i tb P xs }) : ForL W E i tb P (x :: xs) r m := h
/-- while, by a word and a measure -/
theorem ws_while (I : Rho → Mu → Prop) (f : Rho → Mu → Nat) (h0 : I r m) (h : ∀ r m, I r m → Wt W E tt r m fun b m1 => (b = true → Ws W E tb r m1 { nx := fun r' m' => I r' m' ∧ f r' m' < f r m, rt := P.rt, bk := P.nx, ct := fun r' m' => I r' m' ∧ f r' m' < f r m }) ∧ (b = false → P.nx r m1)) :
    Ws W E (tWhile tt tb) r m P := fun s H De e z g => by
  refine ⟨fun n s' H' => ∃ r' m', n = f r' m' ∧ Stp (dom m) H (dom m') H' ∧ EnvR r' m' s' H' ∧ I r' m', ⟨_, r, m, rfl, Stp.refl _ _, e, h0⟩, ?_⟩
  rintro n s' H' ⟨r', m', rfl, st, e', hi⟩
  refine h r' m' hi s' H' _ e' (z.step st) fun b m1 H1 s1 mu1 q => ?_
  cases b with
  | true =>
    rw [if_pos rfl]
    refine ⟨fun s2 H2 => ∃ r2 m2, f r2 m2 < f r' m' ∧ Stp (dom m) H (dom m2) H2 ∧ EnvR r2 m2 s2 H2 ∧ I r2 m2, fun s2 H2 ⟨r2, m2, l, a, b, c⟩ => ⟨_, l, r2, m2, rfl, a, b, c⟩, ?_⟩
    exact q.1 rfl s' H1 _ (e'.step s1 mu1) (z.step (st.trans s1)) (goL g (st.trans s1) fun r2 m2 s2 H2 a b c => ⟨r2, m2, c.2, st.trans (s1.trans a), b, c.1⟩)
  | false =>
    rw [if_neg Bool.false_ne_true]
    exact g.nx r' m1 s' H1 (st.trans s1) (e'.step s1 mu1) (q.2 rfl)
end
end DL
set_option Elab.async false
set_option linter.all false
set_option maxRecDepth 100000
/-! DL6: built-in functions, comprehensions, lists changed, errors raised and caught. -/
namespace DL
open PySem PySem.Spec L2
open PyProof.Rows hiding St

/-! ### built-in functions: the readings -/
section
variable {X : Cx} {W : WX} {j : Nat}
def rAbsI : List V → Hp → VK → Prop := fun xs H Q => ∃ i, xs = [.int i] ∧ Q (.int (if i < 0 then -i else i)) H
def cAbs : OC := fun xs _ H Q => rAbsI xs H Q
theorem cs_abs : CallS X (.builtin "abs") cAbs := CallS.of call_abs
def rInt1 : List V → Hp → VK → Prop := fun xs H Q => (∃ i, xs = [.int i] ∧ Q (.int i) H) ∨ ∃ k, xs = [.bl k] ∧ Q (.int (if k then 1 else 0)) H
def cInt : OC := fun xs _ H Q => rInt1 xs H Q
theorem cs_int : CallS X (.type "int") cInt := CallS.of call_int1
def rLenD (K : PySem.W.Frag) : List V → Hp → VK → Prop := fun xs H Q => ∃ x n, xs = [x] ∧ LenV K x H n ∧ Q (.int (n : Nat)) H
def cLen (G : Gx) : OC := fun xs _ H Q => rLenD G.K xs H Q
theorem cs_len : CallS X (.builtin "len") (cLen (Gx.of X)) := CallS.of call_len
def rMin2 : List V → Hp → VK → Prop := fun xs H Q => ∃ i j, xs = [.int i, .int j] ∧ Q (.int (if j < i then j else i)) H
def rMax2 : List V → Hp → VK → Prop := fun xs H Q => ∃ i j, xs = [.int i, .int j] ∧ Q (.int (if j > i then j else i)) H
def cMin : OC := fun xs _ H Q => rMin2 xs H Q
def cMax : OC := fun xs _ H Q => rMax2 xs H Q
theorem cs_min (hc : X.calm = true) : CallS X (.builtin "min") cMin := CallS.of (call_min2 hc)
theorem cs_max (hc : X.calm = true) : CallS X (.builtin "max") cMax := CallS.of (call_max2 hc)
def cGcd : OC := fun xs _ H Q => rGcd xs H Q
theorem cs_gcd : CallS X (.builtin "math.gcd") cGcd := CallS.of cr_gcd
def cIsi (G : Gx) : OC := fun xs _ H Q => rIsi G.K xs H Q
theorem cs_isi : CallS X (.builtin "isinstance") (cIsi (Gx.of X)) := CallS.of call_isi
end

/-! ### what they do -/
section
variable {W : WX} {E : ET} {r : Rho} {m : Mu} {K : KT} {G : Gx} {j : Nat}
theorem wc_abs {i : Int} (h : K (.int (i.natAbs : Int)) m) : Wc W E cAbs [.int i] r m K := fun s H Q vs e z rs g => by
  cases rs with
  | cons a t =>
    cases t; cases a
    refine ⟨i, rfl, ?_⟩
    have q : (if i < 0 then -i else i) = (i.natAbs : Int) := by split <;> omega
    rw [q]
    exact g _ m _ H (Stp.refl _ _) e.mu (.int _) h
theorem wc_int {i : Int} (h : K (.int i) m) : Wc W E cInt [.int i] r m K := fun s H Q vs e z rs g => by
  cases rs with
  | cons a t =>
    cases t; cases a
    exact .inl ⟨i, rfl, g _ m _ H (Stp.refl _ _) e.mu (.int _) h⟩
theorem wc_intB {b : Bool} (h : K (.int (if b then 1 else 0)) m) : Wc W E cInt [.bl b] r m K := fun s H Q vs e z rs g => by
  cases rs with
  | cons a t =>
    cases t; cases a
    exact .inr ⟨b, rfl, g _ m _ H (Stp.refl _ _) e.mu (.int _) h⟩
inductive LenD : D → Mu → Nat → Prop
  | tup {m : Mu} {xs : List D} : LenD (.tup xs) m xs.length
  | lst {m : Mu} {xs : List D} : LenD (.lst xs) m xs.length
  | mutb {m : Mu} {p : Addr} {xs : List D} (h : At m p (.lst xs)) : LenD (.ref p) m xs.length
theorem wc_len {d : D} {n : Nat} (l : LenD d m n) (h : K (.int (n : Int)) m) : Wc W E (cLen G) [d] r m K := fun s H Q vs e z rs g => by
  cases rs with
  | cons a t =>
    cases t
    refine ⟨_, n, rfl, ?_, g _ m _ H (Stp.refl _ _) e.mu (.int _) h⟩
    cases l with
    | tup => cases a with | tup mm hh rs => exact .inr ⟨_, rd_t hh, rs.length⟩
    | lst => cases a with | lst mm hh rs => exact .inl ⟨_, rd_l hh, rs.length⟩
    | mutb hm =>
      cases a
      have q := hm.rep e.mu
      cases q with
      | lst hh rs => exact .inl ⟨_, SqL.of hh, rs.length⟩
theorem wc_min {i k : Int} (h : K (.int (min i k)) m) : Wc W E cMin [.int i, .int k] r m K := fun s H Q vs e z rs g => by
  cases rs with
  | cons a t =>
    cases t with
    | cons b t =>
      cases t; cases a; cases b
      refine ⟨i, k, rfl, ?_⟩
      have q : (if k < i then k else i) = min i k := by split <;> omega
      rw [q]
      exact g _ m _ H (Stp.refl _ _) e.mu (.int _) h
theorem wc_max {i k : Int} (h : K (.int (max i k)) m) : Wc W E cMax [.int i, .int k] r m K := fun s H Q vs e z rs g => by
  cases rs with
  | cons a t =>
    cases t with
    | cons b t =>
      cases t; cases a; cases b
      refine ⟨i, k, rfl, ?_⟩
      have q : (if k > i then k else i) = max i k := by split <;> omega
      rw [q]
      exact g _ m _ H (Stp.refl _ _) e.mu (.int _) h
theorem wc_gcd {i k : Int} (h : K (.int ((Nat.gcd i.natAbs k.natAbs : Nat) : Int)) m) : Wc W E cGcd [.int i, .int k] r m K := fun s H Q vs e z rs g => by
  cases rs with
  | cons a t =>
    cases t with
    | cons b t =>
      cases t; cases a; cases b
      exact ⟨i, k, rfl, g _ m _ H (Stp.refl _ _) e.mu (.int _) h⟩
/-- the class of a tree, as isinstance asks -/
structure InsK (K : PySem.W.Frag) (C : Addr) : Prop where
  cl : Cls K C
  ha : PySem.W.findIn K (.ref C) "__class__" = some (some (.builtin "object.__class__"))
  hn : PySem.W.specialIn K (.builtin "object.__class__") "__get__" = some (some (.builtin "getset_descriptor.__get__"))
  ht : PySem.W.takesIn K (.builtin "object.__class__") = some true
  hm : PySem.W.mroIn K C (.type "object") = some true
inductive TyD (G : Gx) : D → Mu → Value → Prop
  | non {m : Mu} : TyD G .non m (.type "NoneType")
  | bl {m : Mu} {b : Bool} : TyD G (.bl b) m (.type "bool")
  | int {m : Mu} {i : Int} : TyD G (.int i) m (.type "int")
  | str {m : Mu} {x : Str} : TyD G (.str x) m (.type "str")
  | tup {m : Mu} {xs : List D} : TyD G (.tup xs) m (.type "tuple")
  | lst {m : Mu} {xs : List D} : TyD G (.lst xs) m (.type "list")
  | ins {m : Mu} {C : Addr} {ns : List Str} {ds : List D} (h : InsK G.K C) : TyD G (.ins C ns ds) m (.ref C)
theorem TyD.ok {d : D} {t : Value} {H : Hp} {v : V} (h : TyD G d m t) (rp : Rep (dom m) H d v) : TyX G.K H v t := by
  cases h with
  | non => cases rp; exact .base .non
  | bl => cases rp; exact .base (.bl _)
  | int => cases rp; exact .base (.int _)
  | str => cases rp; exact .base (.str _)
  | tup =>
    cases rp with
    | tup mm hh rs =>
      rcases hh with hh | ⟨o, hh⟩
      · exact .base (.tup hh)
      · exact .fTuple hh
  | lst =>
    cases rp with
    | lst mm hh rs =>
      rcases hh with hh | ⟨o, hh⟩
      · exact .base (.lst hh)
      · exact .base (.frz hh)
  | ins h =>
    cases rp with
    | ins mm hh rs => exact .base (.ins hh h.cl h.ha h.hn h.ht h.hm)
theorem wc_isiT {d : D} {t : Value} {n : String} {b : Bool} (ty : TyD G d m t) (hk : PySem.W.kitOne G.K t (.type n) = some b) (h : K (.bl b) m) : Wc W E (cIsi G) [d, .ty n] r m K := fun s H Q vs e z rs g => by
  cases rs with
  | cons a tt =>
    cases tt with
    | cons c tt =>
      cases tt; cases c
      exact ⟨_, _, t, .type n, b, rfl, .ty n, ty.ok a, hk, g _ m _ H (Stp.refl _ _) e.mu (.bl _) h⟩
theorem wc_isiC {d : D} {t : Value} {C : Addr} {b : Bool} (ty : TyD G d m t) (hk : PySem.W.kitOne G.K t (.ref C) = some b) (h : K (.bl b) m) : Wc W E (cIsi G) [d, .ref C] r m K := fun s H Q vs e z rs g => by
  cases rs with
  | cons a tt =>
    cases tt with
    | cons c tt =>
      cases tt; cases c
      exact ⟨_, _, t, .ref C, b, rfl, .own C, ty.ok a, hk, g _ m _ H (Stp.refl _ _) e.mu (.bl _) h⟩
end

/-! ### comprehensions over a list or a tuple, the element by a function -/
section
variable {W : WX} {E : ET} {r : Rho} {m : Mu} {K : KT} {G : Gx} {te tx : TE} {i : Nat}
theorem wipe1 (s : L2.St) : wipe s [i] = s.set i none := rfl
theorem we_lcm {f : D → D} (h : We W E tx r m fun d m1 => ∃ xs, SeqD d xs ∧ Nat.ble xs.length 100000 = true ∧ (∀ x ∈ xs, ∀ (q : Addr × MO) (K2 : KT), K2 (f x) (q :: m1) → We W E te (r.set i (some x)) (q :: m1) K2) ∧ K (.lst (xs.map f)) m1) :
    We W E (tLc (iSeq G.K tx) (gName i) tYes te [i]) r m K := fun s H Q e z g =>
  h s H _ e z fun d m1 v H1 s1 mu1 r1 q => by
    obtain ⟨xs, sd, hlen, hel, hK⟩ := q
    have e1 := e.step s1 mu1
    have hlen' := Nat.le_of_ble_eq_true hlen
    have start : ∀ Dd, H1 Dd = none → (Stp (dom m1) H1 (dom ((Dd, MO.lst ((xs.take 0).map f)) :: m1)) (upd H1 Dd (.lst [])) ∧ MutR ((Dd, .lst ((xs.take 0).map f)) :: m1) (upd H1 Dd (.lst []))) := fun Dd hd =>
      ⟨Stp.newM hd, mu1.newM hd (.lst upd_same .nil)⟩
    have fin : ∀ (vs : List V) (Dd : Addr), Reps (dom m1) H1 xs vs → ∀ H', (Stp (dom m1) H1 (dom ((Dd, MO.lst ((xs.take vs.length).map f)) :: m1)) H' ∧ MutR ((Dd, .lst ((xs.take vs.length).map f)) :: m1) H') → Q (.ref Dd) H' := fun vs Dd rs H' ⟨a, b⟩ => by
      rw [← rs.length, List.take_length] at a b
      have ls : Stp (dom ((Dd, MO.lst (xs.map f)) :: m1)) H' (dom m1) H' := Stp.less fun a z => dom_cons.mpr (.inr z)
      have q := (At.head (m := m1) (p := Dd) (o := .lst (xs.map f))).rep b
      cases q with
      | lst hh rr => exact g _ m1 _ H' (s1.trans (a.trans ls)) b.drop (.lst b.notin (.inl hh) (rr.mono ls)) hK
    have turn : ∀ (vs : List V) (Dd : Addr), Reps (dom m1) H1 xs vs → ∀ k x H', vs[k]? = some x → (Stp (dom m1) H1 (dom ((Dd, MO.lst ((xs.take k).map f)) :: m1)) H' ∧ MutR ((Dd, .lst ((xs.take k).map f)) :: m1) H') →
        te ((wipe s [i]).set i (some x)) H' fun y H4 => ∃ acc, H4 Dd = some (.lst acc) ∧ acc.length < sizeLine ∧ (Stp (dom m1) H1 (dom ((Dd, MO.lst ((xs.take (k + 1)).map f)) :: m1)) (upd H4 Dd (.lst (acc ++ [y]))) ∧ MutR ((Dd, .lst ((xs.take (k + 1)).map f)) :: m1) (upd H4 Dd (.lst (acc ++ [y])))) := fun vs Dd rs k x H' hx ⟨a, b⟩ => by
      obtain ⟨d, hd1, hd2⟩ := rs.getV hx
      have hmem : d ∈ xs := List.mem_of_getElem? hd1
      have ee : EnvR (r.set i (some d)) ((Dd, .lst ((xs.take k).map f)) :: m1) ((wipe s [i]).set i (some x)) H' := by
        have e' := e1.step a b
        refine ⟨?_, b⟩
        rw [wipe1, List.set_set]
        exact (e'.put (hd2.mono a)).env
      refine hel d hmem (Dd, .lst ((xs.take k).map f)) (fun d' m' => d' = f d ∧ m' = (Dd, .lst ((xs.take k).map f)) :: m1) ⟨rfl, rfl⟩ _ H' _ ee (z.step (s1.trans a)) fun d' m' y H4 st4 mu4 r4 qq => ?_
      obtain ⟨rfl, rfl⟩ := qq
      have q := (At.head (m := m1) (p := Dd) (o := .lst ((xs.take k).map f))).rep mu4
      have ex : xs.take (k + 1) = xs.take k ++ [d] := by
        rw [List.take_add_one, hd1]
        rfl
      cases q with
      | @lst _ ys hh rr =>
        have al : ys.length < sizeLine := by
          rw [← rr.length, List.length_map, List.length_take]
          have : (100000 : Nat) < sizeLine := by decide
          omega
        have P : Put ((Dd, MO.lst ((xs.take k).map f)) :: m1) Dd (.lst ((xs.take (k + 1)).map f)) ((Dd, .lst ((xs.take (k + 1)).map f)) :: m1) := .head
        refine ⟨ys, hh, al, a.trans (st4.trans P.stp), P.mut mu4 (.lst upd_same ?_)⟩
        rw [ex, List.map_append]
        exact Reps.append (rr.mono P.stp) (.cons (r4.mono P.stp) .nil)
    cases sd with
    | lst =>
      cases r1 with
      | @lst a _ vs mm hh rs =>
        refine .inl ⟨a, rfl, ⟨vs, rd_l hh⟩, fun (Dd : Addr) (hD : H1 Dd = none) => ?_⟩
        refine lc_list (xs := vs) (fun k H' => Stp (dom m1) H1 (dom ((Dd, MO.lst ((xs.take k).map f)) :: m1)) H' ∧ MutR ((Dd, .lst ((xs.take k).map f)) :: m1) H') (start Dd hD) (fun k H' _ p => rd_l (p.1.rd mm hh).1)
          (fun k x H' hx p => ⟨by simp only [wipe, List.set_set], ?_⟩) (fun H' p => fin vs Dd rs H' p)
        unfold tYes
        dsimp only
        rw [if_pos rfl]
        exact turn vs Dd rs k x H' hx p
    | tup =>
      cases r1 with
      | @tup a _ vs mm hh rs =>
        refine .inr ⟨a, rfl, ⟨vs, rd_t hh⟩, fun (Dd : Addr) (hD : H1 Dd = none) => ?_⟩
        refine lc_tup (xs := vs) (fun k H' => Stp (dom m1) H1 (dom ((Dd, MO.lst ((xs.take k).map f)) :: m1)) H' ∧ MutR ((Dd, .lst ((xs.take k).map f)) :: m1) H') (start Dd hD) (fun k H' _ p => rd_t (p.1.rd mm hh).1)
          (fun k x H' hx p => ⟨by simp only [wipe, List.set_set], ?_⟩) (fun H' p => fin vs Dd rs H' p)
        unfold tYes
        dsimp only
        rw [if_pos rfl]
        exact turn vs Dd rs k x H' hx p
end
end DL
set_option Elab.async false
set_option linter.all false
set_option maxRecDepth 100000
/-! DL7: lists changed, slices, errors raised and caught. -/
namespace DL
open PySem PySem.Spec L2
open PyProof.Rows hiding St

section
variable {W : WX} {E : ET} {r : Rho} {m : Mu} {K : KT} {G : Gx} {te to : TE} {ta : TA} {i : Nat} {P : DEnds}
/-! ### xs.append(d) -/
theorem we_app (h : We W E to r m fun o m1 => ∃ p xs1, o = .ref p ∧ At m1 p (.lst xs1) ∧ Wa W E ta r m1 fun ds m2 => ∃ xs d m3, ds = [d] ∧ At m2 p (.lst xs) ∧ xs.length < 1000000 ∧ Put m2 p (.lst (xs ++ [d])) m3 ∧ K .non m3) :
    We W E (tBM G.K "list" rAppend to ta) r m K := fun s H Q e z g =>
  h s H _ e z fun o m1 v H1 s1 mu1 r1 q => by
    obtain ⟨p, xs1, rfl, ha1, q⟩ := q
    cases r1
    have at1 := ha1.rep mu1
    cases at1 with
    | lst hh1 rs1 =>
      refine ⟨Or.inl ⟨rfl, _, SqL.of hh1⟩, ?_⟩
      refine q s H1 _ (e.step s1 mu1) (z.step s1) fun ds m2 vs H2 s2 mu2 r2 q2 => ?_
      obtain ⟨xs, d, m3, rfl, ha, hl, hp, k⟩ := q2
      have at2 := ha.rep mu2
      cases at2 with
      | lst hh rs =>
        cases r2 with
        | cons rd t =>
          cases t
          have st : ∀ o, Stp (dom m2) H2 (dom m3) (upd H2 p o) := fun o => hp.stp
          refine ⟨p, _, _, rfl, rfl, hh, Nat.lt_of_lt_of_le (by rw [← rs.length]; exact hl) (by decide : 1000000 ≤ sizeLine), ?_⟩
          exact g _ m3 _ _ ((s1.trans s2).trans (st _)) (hp.mut mu2 (.lst upd_same (Reps.append (rs.mono (st _)) (.cons (rd.mono (st _)) .nil)))) .non k

/-! ### slices -/
def cutD (xs : List D) (lo hi : Option Int) : List D := (xs.drop (HT.sIx xs.length 0 lo)).take (HT.sIx xs.length xs.length hi - HT.sIx xs.length 0 lo)
theorem Reps.cut {M : Addr → Prop} {H : Hp} {ds : List D} {vs : List V} (h : Reps M H ds vs) (lo hi : Option Int) : Reps M H (cutD ds lo hi) (cutV vs lo hi) := by
  unfold cutD cutV
  rw [h.length]
  exact (h.drop _).take _
def Wo (W : WX) (E : ET) (t : TO) (r : Rho) (m : Mu) (KO : Option Int → Mu → Prop) : Prop := ∀ s H Q, EnvR r m s H → Rz W E m H → (∀ o m' H', Stp (dom m) H (dom m') H' → MutR m' H' → KO o m' → Q o H') → t s H Q
theorem wo_none {KO : Option Int → Mu → Prop} (h : KO none m) : Wo W E tNoPart r m KO := fun s H Q e z g => g none m H (Stp.refl _ _) e.mu h
theorem wo_some {KO : Option Int → Mu → Prop} (h : We W E te r m fun d m1 => ∃ i, d = .int i ∧ KO (some i) m1) : Wo W E (tPart te) r m KO := fun s H Q e z g =>
  h s H _ e z fun d m1 v H1 s1 mu1 r1 ⟨i, hd, k⟩ => by
    subst hd
    cases r1
    exact ⟨i, rfl, g _ m1 H1 s1 mu1 k⟩
theorem we_slL {tl th : TO} (h : We W E te r m fun d m1 => ∃ xs, d = .lst xs ∧ Wo W E tl r m1 fun lo m2 => Wo W E th r m2 fun hi m3 => K (.lst (cutD xs lo hi)) m3) : We W E (tSl (rSlL G.K) te tl th) r m K := fun s H Q e z g =>
  h s H _ e z fun d m1 v H1 s1 mu1 r1 ⟨xs, hd, q⟩ => by
    subst hd
    refine q s H1 _ (e.step s1 mu1) (z.step s1) fun lo m2 H2 s2 mu2 q2 => ?_
    refine q2 s H2 _ ((e.step s1 mu1).step s2 mu2) ((z.step s1).step s2) fun hi m3 H3 s3 mu3 k => ?_
    have r3 := (r1.mono s2).mono s3
    cases r3 with
    | lst mm hh rs =>
      refine ⟨_, _, rfl, rd_l hh, fun p hp => ?_⟩
      exact g _ m3 _ _ (((s1.trans s2).trans s3).trans (Stp.new hp)) (mu3.new hp) (.lst (fun zz => by obtain ⟨u, hu⟩ := mu3.there zz; rw [hp] at hu; cases hu) (.inl upd_same) ((rs.cut lo hi).mono (Stp.new hp))) k
/-- xs[::-1] -/
theorem Reps.rev {M : Addr → Prop} {H : Hp} : ∀ {d : List D} {v : List V}, Reps M H d v → Reps M H d.reverse v.reverse
  | _, _, .nil => .nil
  | _, _, .cons r t => by
    rw [List.reverse_cons, List.reverse_cons]
    exact Reps.append (Reps.rev t) (.cons r .nil)
theorem we_revL (h : We W E te r m fun d m1 => ∃ xs, d = .lst xs ∧ K (.lst xs.reverse) m1) : We W E (tRevL G.K te) r m K := fun s H Q e z g => by
  refine h s H _ e z fun d m1 v H1 s1 mu1 r1 ⟨xs, hd, k⟩ => ?_
  subst hd
  cases r1 with
  | lst mm hh rs =>
    refine ⟨_, _, rfl, rd_l hh, fun p hp => ?_⟩
    exact g _ m1 _ _ (s1.trans (Stp.new hp)) (mu1.new hp) (.lst (fun zz => by obtain ⟨u, hu⟩ := mu1.there zz; rw [hp] at hu; cases hu) (.inl upd_same) (rs.rev.mono (Stp.new hp))) k
/-- .. of a list that is changed -/
theorem we_revM (h : We W E te r m fun d m1 => ∃ p xs, d = .ref p ∧ At m1 p (.lst xs) ∧ K (.lst xs.reverse) m1) : We W E (tRevL G.K te) r m K := fun s H Q e z g => by
  refine h s H _ e z fun d m1 v H1 s1 mu1 r1 ⟨q, xs, hd, ha, k⟩ => ?_
  subst hd
  cases r1
  have at1 := ha.rep mu1
  cases at1 with
  | lst hh rs =>
    refine ⟨_, _, rfl, SqL.of hh, fun p hp => ?_⟩
    exact g _ m1 _ _ (s1.trans (Stp.new hp)) (mu1.new hp) (.lst (fun zz => by obtain ⟨u, hu⟩ := mu1.there zz; rw [hp] at hu; cases hu) (.inl upd_same) (rs.rev.mono (Stp.new hp))) k
end

/-! ### errors made by an own class: C(e, ..) with an __init__ that keeps its arguments in fields -/
def spXI (C : Addr) (ns : List Str) : Sp := fun vs H Q _ => ∃ (a : Addr) (ys : List V), vs = .ref a :: ys ∧ ys.length = ns.length ∧ H a = some (exo a C none) ∧
  ∀ d H', H d = none → d ≠ a → (∀ b, b ≠ a → b ≠ d → H' b = H b) → H' a = some (exo a C (some d)) → H' d = some (exd d (ns.zip ys).reverse) → Q .non H'
structure Exc (G : Gx) (x : Str) (C : Addr) (ns : List Str) : Prop where
  ex : ∃ (f : Addr) (fd : FuncData) (ps : List Str), FnOk G.P G.w G.K G.mg G.base CX0 1 f fd ps (spXI C ns) ∧ Binds G.K fd ps [] ∧ PySem.W.findIn G.K (.ref C) "__init__" = some (some (.ref f)) ∧ PySem.W.typeIn G.K (.ref f) = some (.type "function")
  ox : OexC G.K C
  mgC : G.mg x = some (.ref C)
section
variable {X : Cx} {W : WX} {E : ET} {x : Str} {C : Addr} {ns : List Str} {e : Expr} {es : List Expr} {ta : TA} {p pos pos' : Pos} {j : Nat}
theorem pmkN_oex (c : Exc (Gx.of X) x C ns) (hr : Room j X.A) (hj : 2 ≤ j) (hg : Gl X x) (ha : PA X (e :: es) ta)
    (hdb : (x == ("__debug__" : Str)) = false := by decide) (he : starEach (e :: es) X.env = (false, eval e X.env) :: starEach es X.env := by rfl) (hpl : (backTo pos (starEach es X.env)).any (·.1) = false := by rfl) :
    L2N.PMk X (.Call (.Name x p) (e :: es) [] pos) (tMkO C (spXI C ns) [] ta) := by
  intro pins s σ H Q I h
  obtain ⟨fI, fd, ps, F1, hb, iC, tI⟩ := c.ex
  have T := c.ox
  obtain ⟨nm, q, N, bs, bm, sn, sub, ab, col, dd, k0, k1, k2, k3, k5, hC, hbm⟩ := T.cls
  refine wpAny_Call_Name_kw (ld_glob I hg c.mgC ?_ hdb)
  refine PySem.W.callWith_K (h₀ := X.base) I.ok.mod.kin T.kC (thn (ha.run pos pins s σ H _ I h) fun us s1 ⟨vs, H1, I1, r1, hz, q1⟩ => ⟨I1.kIn, ?_⟩) he hpl
  show wpAny _ _ (call (.ref C) us) _ _ _
  obtain ⟨hp, g, dr, tk, os⟩ := s1
  have hsz : hp.objs.size ≤ hp.objs.size + 1 := Nat.le_succ _
  have hn : H1 (hp.objs.size + 1) = none := I1.hok.fresh hsz
  have hq := q1 (hp.objs.size + 1) hn
  rw [List.append_nil] at hq
  have kk : ∀ b o, hp.get? b = some o → ((hp.push (PySem.W.kdv_tup us)).push (PySem.HandSPX.excO C hp.objs.size)).get? b = some o := fun b o e => Heap.get?_push_of_some _ (Heap.get?_push_of_some _ e)
  have hget : ((hp.push (PySem.W.kdv_tup us)).push (PySem.HandSPX.excO C hp.objs.size)).get? (hp.objs.size + 1) = some (PySem.HandSPX.excO C hp.objs.size) := by heap_get
  have I2 : Inv X pins σ (upd H1 (hp.objs.size + 1) (exo (hp.objs.size + 1) C none)) ⟨(hp.push (PySem.W.kdv_tup us)).push (PySem.HandSPX.excO C hp.objs.size), g, dr, tk, os⟩ :=
    I1.laid (t' := tk) (a := hp.objs.size + 1) (o := exo (hp.objs.size + 1) C none) (h' := (hp.push (PySem.W.kdv_tup us)).push (PySem.HandSPX.excO C hp.objs.size)) kk hsz (exo_ok hget)
  have r2 : Vals (V.ref (hp.objs.size + 1) :: vs) (Value.ref (hp.objs.size + 1) :: us) := .cons rfl r1
  have hl : (Value.ref (hp.objs.size + 1) :: us ++ []).length = ps.length := by
    have e := r2.length
    rw [F1.len _ _ _ _ hq] at e
    rw [List.append_nil]
    exact e.symm
  have hus : us.length ≤ sizeLine := by
    rw [← Paired.length r1, sizeLine_eq]
    omega
  have b2 := hb _ (Value.ref (hp.objs.size + 1) :: us) I2.kIn hl
  rw [List.append_nil] at b2
  refine wpAny_call (PySem.HandSPX.call_own F.excBase_ValueError (fun Y => PySem.HandSPX.refsVE_contains Y bm hbm) (I1.kIn _ _ hC) (PySem.W.looks_findIn I1.kIn iC) (fun self => PySem.W.bind_fn I1.kIn self tI) hus
    (codeAny_mono (F1.run _ X.stack _ _ ⟨Value.ref (hp.objs.size + 1) :: us, []⟩ (Value.ref (hp.objs.size + 1) :: us) _ _ (fun _ _ _ => False) ((hr.mono hj).make C us []) (I2.env0.make C us []) b2 r2 hq) fun r s' hq' => ?_))
  cases r with
  | error er => exact False.elim hq'
  | ok fl =>
    cases fl with
    | ret u =>
      obtain ⟨v, H2, os2, bare2, un2, hok2, rv, ev, d, fs, ea, ed, hd1, q2⟩ := hq'
      subst ev
      obtain ⟨h2, g2, d2, t2, os'⟩ := s'
      obtain ⟨t0, G, J, kG, ge, hoe, na⟩ := mk_end0 (d2 := d2) (t2 := t2) I1 hsz kk un2 hok2 os2 bare2 ea ed hd1
      exact ⟨rv, ⟨_, _, _, ⟨G, g2, d2, t2, os'⟩, _, .ref C, some d, rfl, J, kG, ge, hoe, ⟨rfl, rfl, fun vs e => by cases e; rfl⟩, rfl, rfl, na, rfl, bare2, raises_own T.exC T.tyC, q2⟩⟩
    | next => exact False.elim hq'
    | brk => exact False.elim hq'
    | cont => exact False.elim hq'
def tRs (C : Addr) (ns : List Str) (W : WX) (ta : TA) : TS := fun _ σ H => tMkO C (spXI C ns) [] ta σ H fun cls d H' => W cls d σ H'
theorem ps_rs (c : Exc (Gx.of X) x C ns) (hc : X.calm = true) (hr : Room j X.A) (hj : 2 ≤ j) (tk : L2N.Takes X W) (hg : Gl X x) (ha : PA X (e :: es) ta)
    (hdb : (x == ("__debug__" : Str)) = false := by decide) (he : starEach (e :: es) X.env = (false, eval e X.env) :: starEach es X.env := by rfl) (hpl : (backTo pos (starEach es X.env)).any (·.1) = false := by rfl) :
    PS X (.Raise (some (.Call (.Name x p) (e :: es) [] pos)) none pos') (tRs C ns W ta) := L2N.ps_raise hc tk (pmkN_oex c hr hj hg ha hdb he hpl)
theorem repF_zip {M : Addr → Prop} {H : Hp} : ∀ {ns : List Str} {ds : List D} {vs : List V}, ds.length = ns.length → Reps M H ds vs → RepF M H ns ds (ns.zip vs)
  | [], [], _, _, .nil => .nil
  | n :: ns, d :: ds, v :: vs, h, .cons r t => .cons r (repF_zip (by simpa using h) t)
theorem RepF.append {M : Addr → Prop} {H : Hp} : ∀ {n n' : List Str} {d d' : List D} {v v' : List (Str × V)}, RepF M H n d v → RepF M H n' d' v' → RepF M H (n ++ n') (d ++ d') (v ++ v')
  | _, _, _, _, _, _, .nil, h => h
  | _, _, _, _, _, _, .cons r t, h => .cons r (RepF.append t h)
theorem RepF.rev {M : Addr → Prop} {H : Hp} : ∀ {n : List Str} {d : List D} {v : List (Str × V)}, RepF M H n d v → RepF M H n.reverse d.reverse v.reverse
  | _, _, _, .nil => .nil
  | _, _, _, .cons r t => by
    rw [List.reverse_cons, List.reverse_cons, List.reverse_cons]
    exact RepF.append (RepF.rev t) (.cons r .nil)
theorem ws_rs {r : Rho} {m : Mu} {P : DEnds} (h : Wa W E ta r m fun ds m1 => ds.length = ns.length ∧ Nat.ble ds.length 1000 = true ∧ E ⟨C, ns.reverse, ds.reverse⟩ r m1) : Ws W E (tRs C ns W ta) r m P := fun s H De e z g =>
  h s H _ e z fun ds m1 vs H1 s1 mu1 r1 ⟨hl, h1000, q⟩ => by
    refine ⟨by rw [← r1.length]; exact Nat.le_of_ble_eq_true h1000, fun a ha => ?_⟩
    refine ⟨a, vs, by rw [List.append_nil], by rw [← r1.length, hl], upd_same, fun d H' hd hne hs h1 h2 => ⟨rfl, d, _, h1, h2, ?_, ?_⟩⟩
    · rw [upd_ne hne] at hd
      exact hd
    · rw [upd_ne hne] at hd
      have hd' : H1 d = none := hd
      have st : Stp (dom m1) H1 (dom m1) (upd (del H' a) d (.xd (ns.zip vs).reverse)) := fun b o hb hm => by
        have nbd : b ≠ d := fun e => by rw [e, hd'] at hb; cases hb
        have nba : b ≠ a := fun e => by rw [e, ha] at hb; cases hb
        rw [upd_ne nbd, del_ne nba, hs b nba nbd, upd_ne nba]
        exact ⟨hb, hm⟩
      have mu : MutR m1 (upd (del H' a) d (.xd (ns.zip vs).reverse)) := ⟨mu1.nd, fun q hq => (mu1.at_ q hq).mono st fun u hu => by
        have nbd : q.1 ≠ d := fun e => by rw [e, hd'] at hu; cases hu
        have nba : q.1 ≠ a := fun e => by rw [e, ha] at hu; cases hu
        rw [upd_ne nbd, del_ne nba, hs _ nba nbd, upd_ne nba]
        exact hu⟩
      have nd : ¬ dom m1 d := fun zz => by obtain ⟨u, hu⟩ := mu1.there zz; rw [hd'] at hu; cases hu
      refine z _ r m1 _ _ s _ (s1.trans st) (e.step (s1.trans st) mu) ⟨rfl, .inr ⟨d, _, rfl, upd_same, nd, ?_⟩⟩ q
      exact RepF.rev (repF_zip hl (r1.mono st))
end

/-! ### try: .. except X as n: .. -/
abbrev wNo : WX := fun _ _ _ _ => False
abbrev eNo : ET := fun _ _ _ => False
theorem takes0N {X : Cx} : L2N.Takes X wNo := fun _ _ x => by
  obtain ⟨_, _, _, _, _, _, _, _, _, _, _, _, _, _, _, _, z⟩ := x
  exact z.elim
abbrev pX (P : DEnds) (i : Nat) : DEnds := { nx := fun r m => P.nx (r.set i none) m, rt := P.rt, bk := fun r m => P.bk (r.set i none) m, ct := fun r m => P.ct (r.set i none) m }
def eAs (K : PySem.W.Frag) (c : Value) (i : Nat) (ts : Addr → Value → Option Addr → TS) (P : DEnds) (E : ET) : ET := fun x r' m' => ∃ b, PySem.W.exmOne K (.ref x.C) c = some b ∧
  (b = true → ∀ a dd, Ws wNo eNo (ts a (.ref x.C) dd) (r'.set i (some (.exc a dd x.C x.ns x.ds))) m' (pX P i)) ∧ (b = false → E x r' m')
section
variable {W : WX} {E : ET} {r : Rho} {m : Mu} {K : PySem.W.Frag} {P : DEnds} {c : Value} {i : Nat} {tb : WX → TS} {ts : Addr → Value → Option Addr → TS} {te : TE} {G : Gx} {KT' : KT}
theorem repX_exc {M : Addr → Prop} {H : Hp} {x : Ex} {cls : Value} {dd : Option Addr} {a : Addr} (h : RepX M H x cls dd) : Rep M H (.exc a dd x.C x.ns x.ds) (.ref a) := by
  obtain ⟨e, h⟩ := h
  obtain ⟨C, ns, ds⟩ := x
  rcases h with ⟨rfl, h1, h2⟩ | ⟨d, gs, rfl, h2, h3, h4⟩
  · have h1' : ns = [] := h1
    have h2' : ds = [] := h2
    subst h1' h2'
    exact .excN
  · exact .excS h3 h2 h4
def tTry (K : PySem.W.Frag) (c : Value) (i : Nat) (ts : Addr → Value → Option Addr → TS) (tb : WX → TS) (W : WX) : TS := fun D σ H => tb (wAs K c i ts W D) D σ H
theorem ps_tryD {X : Cx} {x n : Str} {b₀ : Stmt} {body suite : List Stmt} {np pos pos' : Pos} (hs : X.stack = X.env :: X.outer) (hf : X.env.frame = some X.env.locals) (hN : X.N.Nodup) (hi : X.N[i]? = some n) (hln : X.env.kindOf n = some .local) (hc : Names X x c) (tk : L2N.Takes X W)
    (hb : ∀ (W : WX) (pn : List (Addr × Obj)) (xe : Value → Shared → Prop), L2N.Takes (X.tr pn xe) W → PassesOwn (model X.prog X.w) X.A X.env xe → PSs (X.tr pn xe) body (tb W))
    (hsu : ∀ (a : Addr) (oe : Obj) (cls : Value) (d : Option Addr) (pn : List (Addr × Obj)), L2N.Zn cls d oe → (∃ vs, oe.data = .fields vs) → PSs (X.suite a ((a, oe) :: pn)) (b₀ :: suite) (ts a cls d)) :
    PS X (.Try body [.ExceptHandler (some (.Name x np)) (some n) (b₀ :: suite) pos'] [] [] pos) (tTry X.K c i ts tb W) := L2N.ps_try_as hs hf hN hi hln hc tk hb hsu
theorem ws_try (h : ∀ W', Ws W' (eAs K c i ts P E) (tb W') r m P) : Ws W E (tTry K c i ts tb W) r m P := fun s H De e z g => by
  refine h (wAs K c i ts W De) s H De e ?_ g
  intro x r' m' cls dd s' H' st er rx ⟨b, hb, ht, hf⟩
  obtain rfl := rx.1
  refine ⟨b, hb, fun hbt a ha => ?_, fun hbf => z x r' m' _ dd s' H' st er rx (hf hbf)⟩
  have g' := g.step st
  refine ht hbt a dd _ H' _ (er.put (repX_exc rx)) (fun _ _ _ _ _ _ _ _ _ _ q => q.elim) ?_
  have back : ∀ {r2 : Rho} {m2 : Mu} {s2 : L2.St} {H2 : Hp}, EnvR r2 m2 s2 H2 → EnvR (r2.set i none) m2 (s2.set i none) H2 := fun e2 => ⟨e2.env.set (.none _) i, e2.mu⟩
  exact ⟨fun r2 m2 s2 H2 a2 b2 q => g'.nx _ m2 _ H2 a2 (back b2) q, g'.rt, fun r2 m2 s2 H2 a2 b2 q => g'.bk _ m2 _ H2 a2 (back b2) q, fun r2 m2 s2 H2 a2 b2 q => g'.ct _ m2 _ H2 a2 (back b2) q⟩
/-- e.f in the suite -/
def tXfD (K : PySem.W.Frag) (a : Addr) (cls : Value) (d : Option Addr) (f : Str) (te : TE) : TE := fun σ H Q => ∃ C, XfC K C ∧ PySem.W.findIn K (.ref C) f = some none ∧ tXf a cls d C f te σ H Q
theorem pe_xfD {X : Cx} {a : Addr} {oe : Obj} {cls : Value} {d : Option Addr} {pn : List (Addr × Obj)} {e : Expr} {te : TE} {pos : Pos} {f : Str}
    (hz : L2N.Zn cls d oe) (hf : ∃ vs, oe.data = .fields vs) (he : PE (X.suite a ((a, oe) :: pn)) e te) (hb : attributeBase e f X.env (eval e X.env) = eval e X.env := by rfl) :
    PE (X.suite a ((a, oe) :: pn)) (.Attribute e f pos) (tXfD X.K a cls d f te) := ⟨fun pins s σ H Q I ⟨C, T, hno, h⟩ => (pe_xf T hno hz.zc hf he hb).run pins s σ H Q I h⟩
theorem we_xf {a C : Addr} {dd : Option Addr} {f : Str} (T : XfC G.K C) (hno : PySem.W.findIn G.K (.ref C) f = some none)
    (h : We W E te r m fun d m1 => ∃ ns ds x, d = .exc a dd C ns ds ∧ fix f ns ds = some x ∧ KT' x m1) : We W E (tXfD G.K a (.ref C) dd f te) r m KT' := fun s H Q e z g =>
  ⟨C, T, hno, h s H _ e z fun d m1 v H1 s1 mu1 r1 ⟨ns, ds, x, hd, hx, k⟩ => by
    subst hd
    cases r1 with
    | excN => simp [fix] at hx
    | excS mm hh rf =>
      obtain ⟨y, h1, h2⟩ := rf.look hx
      exact ⟨rfl, rfl, _, _, y, rfl, hh, h1, g x m1 y H1 s1 mu1 h2 k⟩⟩
end
end DL
set_option Elab.async false
set_option linter.all false
set_option maxRecDepth 100000
/-! DL8: the script, the ends, the steps as a word. -/
namespace DL
open PySem PySem.Spec L2
open PyProof.Rows hiding St
theorem hotc {cls : Value} {d : Option Addr} {oe : Obj} (hz : L2N.Zn cls d oe) (hf : ∃ vs, oe.data = .fields vs) : ∃ vs, oe.data = .fields vs ∧ vs[2]? = some .none := by
  obtain ⟨vs, h⟩ := hf
  exact ⟨vs, h, hz.2.2 vs h⟩
/-- the script as the law gets it -/
inductive ScrD (KF : PySem.W.Frag) : D → List Int → Prop
  | lst {ns : List Int} : ScrD KF (.lst (ns.map D.int)) ns
  | ref {a : Addr} {ns : List Int} (h : ∀ H, SqL KF H a (ns.map V.int)) : ScrD KF (.ref a) ns
section
variable {W : WX} {E : ET} {r : Rho} {m : Mu} {K : KT} {G : Gx} {te : TE}
theorem we_slS {tl th : TO} (h : We W E te r m fun d m1 => ∃ ns, ScrD G.K d ns ∧ Wo W E tl r m1 fun lo m2 => Wo W E th r m2 fun hi m3 => K (.lst (cutD (ns.map D.int) lo hi)) m3) : We W E (tSl (rSlL G.K) te tl th) r m K := fun s H Q e z g =>
  h s H _ e z fun d m1 v H1 s1 mu1 r1 ⟨ns, sd, q⟩ => by
    refine q s H1 _ (e.step s1 mu1) (z.step s1) fun lo m2 H2 s2 mu2 q2 => ?_
    refine q2 s H2 _ ((e.step s1 mu1).step s2 mu2) ((z.step s1).step s2) fun hi m3 H3 s3 mu3 k => ?_
    have r3 := (r1.mono s2).mono s3
    cases sd with
    | lst =>
      cases r3 with
      | lst mm hh rs =>
        refine ⟨_, _, rfl, rd_l hh, fun p hp => ?_⟩
        exact g _ m3 _ _ (((s1.trans s2).trans s3).trans (Stp.new hp)) (mu3.new hp) (.lst (fun zz => by obtain ⟨u, hu⟩ := mu3.there zz; rw [hp] at hu; cases hu) (.inl upd_same) ((rs.cut lo hi).mono (Stp.new hp))) k
    | ref h =>
      cases r3
      refine ⟨_, _, rfl, h H3, fun p hp => ?_⟩
      exact g _ m3 _ _ (((s1.trans s2).trans s3).trans (Stp.new hp)) (mu3.new hp) (.lst (fun zz => by obtain ⟨u, hu⟩ := mu3.there zz; rw [hp] at hu; cases hu) (.inl upd_same) (((Reps.ints ns).cut lo hi).mono (Stp.new hp))) k
theorem scr_of {KF : PySem.W.Frag} {H : Hp} {a : Addr} {ns : List Int} (h : SqL KF H a (ns.map V.int)) : ∃ d, ScrD KF d ns ∧ Rep (dom []) H d (.ref a) := by
  rcases h with h | h
  · exact ⟨_, .lst, .lst dom_nil h (Reps.ints ns)⟩
  · exact ⟨_, .ref fun H' => .inr h, .ref a⟩
end
theorem cut63 {xs : List D} (h : xs.length ≤ 63) : cutD xs none (some 63) = xs := by
  unfold cutD
  have e1 : HT.sIx xs.length 0 none = 0 := rfl
  have e2 : HT.sIx xs.length xs.length (some 63) = xs.length := by
    rw [show (some (63 : Int)) = some ((63 : Nat) : Int) from rfl, HT.sIx_nat]
    omega
  rw [e1, e2, List.drop_zero, Nat.sub_zero, List.take_length]

theorem rH {k : Nat} {A : Around} {h : Option Value} (r : L2.Room k A) : L2H.RoomH k (A.mark h) := ⟨r.dp, r.un⟩
/-! ### sizes -/
theorem log2_of {x : Int} {n : Nat} (h : x.natAbs < 2 ^ n) (h0 : 0 < n) : x.natAbs.log2 < n := PySem.Flt.log2_lt_of h0 h
def Bd (n : Nat) (x : Int) : Prop := x.natAbs < 2 ^ n
theorem Bd.mono {a b : Nat} {x : Int} (h : Bd a x) (l : a ≤ b) : Bd b x := Nat.lt_of_lt_of_le h (Nat.pow_le_pow_right (by decide) l)
theorem Bd.mul {a b : Nat} {x y : Int} (h : Bd a x) (k : Bd b y) : Bd (a + b) (x * y) := wide_lt h k
theorem Bd.add {a : Nat} {x y : Int} (h : Bd a x) (k : Bd a y) : Bd (a + 1) (x + y) := by
  unfold Bd at *
  rw [Nat.pow_succ]
  omega
theorem Bd.sub {a : Nat} {x y : Int} (h : Bd a x) (k : Bd a y) : Bd (a + 1) (x - y) := by
  unfold Bd at *
  rw [Nat.pow_succ]
  omega
theorem Bd.neg {a : Nat} {x : Int} (h : Bd a x) : Bd a (-x) := by
  unfold Bd at *
  omega
theorem Bd.ok {a : Nat} {x : Int} (h : Bd a x) : x.natAbs.log2 ≤ a := by
  have := log2_of (n := a + 1) (h.mono (Nat.le_succ a)) (Nat.succ_pos a)
  omega
theorem Bd.mulX {a b : Nat} {x y : Int} (h : Bd a x) (k : Bd b y) (l : a + b < 100000000) : CMulX x y := by
  have := h.ok
  have := k.ok
  unfold CMulX
  omega
theorem Bd.divX {a : Nat} {x y : Int} (h : Bd a y) (n : y ≠ 0) (l : a < 9000) : CDivX x y := ⟨n, by have := h.ok; omega⟩
theorem bd_lit {x : Int} {n : Nat} (h : x.natAbs.blt (2 ^ n) = true) : Bd n x := Nat.le_of_ble_eq_true h

/-! ### the pot that a law draws from -/
def PotM (p : Addr) (m0 m : Mu) : Prop := ∃ (cs : List Int) (i r : Int), m = (p, .lst [.lst (cs.map D.int), .int i, .int r]) :: m0 ∧ 0 ≤ i ∧ 0 ≤ r ∧ ∀ c ∈ cs, 0 ≤ c
def S_pot (KF : PySem.W.Frag) : SpecD := fun ds m K _ => ∃ d ns, ds = [d] ∧ ScrD KF d ns ∧ ns.length ≤ 63 ∧ ∀ p m', ¬ dom m p → PotM p m m' → K (.ref p) m'
def S_digit : SpecD := fun ds m K _ => ∃ p many m0, ds = [.ref p, .int many] ∧ 0 < many ∧ Bd 8000 many ∧ PotM p m0 m ∧ ∀ dg m', 0 ≤ dg → dg < many → PotM p m0 m' → K (.int dg) m'

theorem cx_G {G : Gx} {N : List Str} {qual : Str} {st : Stmt} {f : Addr} {cdv : Value} {A : Around} {outer : List Env} {s : Shared} {H : Hp} {F : XK} : Gx.of (cxG G N qual st f cdv A outer s H F) = G := rfl
theorem cx_K {G : Gx} {N : List Str} {qual : Str} {st : Stmt} {f : Addr} {cdv : Value} {A : Around} {outer : List Env} {s : Shared} {H : Hp} {F : XK} : (cxG G N qual st f cdv A outer s H F).K = G.K := rfl
theorem cxH_G {G : Gx} {N : List Str} {qual : Str} {st : Stmt} {f : Addr} {cdv : Value} {A : Around} {outer : List Env} {s : Shared} {H : Hp} {F : XK} {p : Addr × Obj} : Gx.of (cxGH G N qual st f cdv A outer s H F p) = G := rfl
theorem cxH_K {G : Gx} {N : List Str} {qual : Str} {st : Stmt} {f : Addr} {cdv : Value} {A : Around} {outer : List Env} {s : Shared} {H : Hp} {F : XK} {p : Addr × Obj} : (cxGH G N qual st f cdv A outer s H F p).K = G.K := rfl
/-- an item of a list of numbers -/
theorem atI_ints {cs : List Int} {i : Int} (h0 : 0 ≤ i) (h1 : i < (cs.length : Int)) : ∃ c, c ∈ cs ∧ atI (cs.map D.int) i = some (.int c) := by
  obtain ⟨n, rfl⟩ := Int.eq_ofNat_of_zero_le h0
  have hn : n < cs.length := by omega
  refine ⟨cs[n], List.getElem_mem hn, atI_nat ?_⟩
  rw [List.getElem?_map, List.getElem?_eq_getElem hn]
  rfl
theorem use_digit {p : Addr} {many : Int} {m m0 : Mu} {K : KT} {E : Ex → Mu → Prop} (h0 : 0 < many) (hb : Bd 8000 many) (hm : PotM p m0 m) (k : ∀ dg m', 0 ≤ dg → dg < many → PotM p m0 m' → K (.int dg) m') : S_digit [.ref p, .int many] m K E :=
  ⟨p, many, m0, rfl, h0, hb, hm, k⟩

section
variable {W : WX} {E : ET} {r : Rho} {m : Mu} {K : KT} {S : SpecD} {n : Nat} {t : TA} {C : Addr} {G : Gx} {te : TE}
theorem Wa.imp {KA KA' : List D → Mu → Prop} (h : Wa W E t r m KA) (k : ∀ ds m', KA ds m' → KA' ds m') : Wa W E t r m KA' := fun s H Q e z g => h s H Q e z fun ds m' vs H' a b c x => g ds m' vs H' a b c (k ds m' x)
theorem we_cl0 (h : Wa W E t r m fun ds m1 => ds.length = n ∧ S ds m1 K fun x m' => E x r m') : We W E (tCl n S [] W t) r m K :=
  we_cl rfl (h.imp fun ds m' k => by rw [List.append_nil]; exact k)
theorem we_mk0 (h : Wa W E t r m fun ds m1 => ds.length + 1 = n ∧ ∀ x, ¬ dom m1 x →
    S (.ref x :: ds) ((x, .ins C [] []) :: m1) (fun d m2 => ∃ ns fs, d = .non ∧ m2 = (x, .ins C ns fs) :: m1 ∧ K (.ins C ns fs) m1) fun ex m2 => ∃ o, m2 = (x, o) :: m1 ∧ E ex r m1) : We W E (tMk C n S [] W t) r m K :=
  we_mk rfl (h.imp fun ds m' k => by rw [List.append_nil]; exact k)
/-- one more argument by default -/
theorem we_mk1 {d1 : D} (hc : isC d1 = true) (h : Wa W E t r m fun ds m1 => ds.length + 1 + 1 = n ∧ ∀ x, ¬ dom m1 x →
    S (.ref x :: (ds ++ [d1])) ((x, .ins C [] []) :: m1) (fun d m2 => ∃ ns fs, d = .non ∧ m2 = (x, .ins C ns fs) :: m1 ∧ K (.ins C ns fs) m1) fun ex m2 => ∃ o, m2 = (x, o) :: m1 ∧ E ex r m1) : We W E (tMk C n S [d1] W t) r m K :=
  we_mk (by rw [List.all_cons, hc]; rfl) (h.imp fun ds m' k => ⟨by rw [List.length_append]; exact k.1, k.2⟩)
/-- a field of a fixed instance -/
theorem we_fldF {f : Str} (h : We W E te r m fun d m1 => ∃ C ns ds x, d = .ins C ns ds ∧ Cls G.K C ∧ NoAttr G.K C f ∧ fix f ns ds = some x ∧ K x m1) : We W E (tFld G.K te f) r m K :=
  we_fld (h.imp fun d m1 ⟨C, ns, ds, x, hd, q⟩ => ⟨C, ns, ds, x, by rw [hd]; exact .fixed, q⟩)
end
/-! ### Ratio: top, bottom -/
abbrev rat (C : Addr) (t b : Int) : D := .ins C ["top", "bottom"] [.int t, .int b]
theorem fix_top {a b : D} : fix "top" ["top", "bottom"] [a, b] = some a := by simp [fix]
theorem nbt : ¬ (("bottom" : Str) = "top") := by decide +kernel
theorem ntb : ¬ (("top" : Str) = "bottom") := by decide +kernel
theorem fix_bottom {a b : D} : fix "bottom" ["top", "bottom"] [a, b] = some b := by simp [fix, nbt]
structure RatC (K : PySem.W.Frag) (C : Addr) : Prop where
  ins : InsK K C
  at_ : NoAttr K C "top"
  ab : NoAttr K C "bottom"
section
variable {K : PySem.W.Frag} {KK : D → Prop} {C : Addr} {t b : Int}
theorem fld_top (R : RatC K C) (h : KK (.int t)) : ∃ C' ns ds x, rat C t b = .ins C' ns ds ∧ Cls K C' ∧ NoAttr K C' "top" ∧ fix "top" ns ds = some x ∧ KK x := ⟨_, _, _, _, rfl, R.ins.cl, R.at_, fix_top, h⟩
theorem fld_bottom (R : RatC K C) (h : KK (.int b)) : ∃ C' ns ds x, rat C t b = .ins C' ns ds ∧ Cls K C' ∧ NoAttr K C' "bottom" ∧ fix "bottom" ns ds = some x ∧ KK x := ⟨_, _, _, _, rfl, R.ins.cl, R.ab, fix_bottom, h⟩
end

theorem kit_ii {K : PySem.W.Frag} : PySem.W.kitOne K (.type "int") (.type "int") = some true := kit_ty (by decide +kernel)
theorem kit_ib {K : PySem.W.Frag} : PySem.W.kitOne K (.type "int") (.type "bool") = some false := kit_ty (by decide +kernel)
section
variable {K : PySem.W.Frag} {C : Addr} {m0 : Mu} {x : Addr} {d e : D} {N : Mu → Prop}
theorem cont_tb : (["top"] : List Str).contains "bottom" = false := by decide +kernel
theorem setN_top (R : RatC K C) (h : N ((x, .ins C ["top"] [d]) :: m0)) : ∃ p C' ns ds m3, D.ref x = .ref p ∧ At ((x, MO.ins C [] []) :: m0) p (.ins C' ns ds) ∧ Cls K C' ∧ NoAttr K C' "top" ∧ ns.contains "top" = false ∧ Nat.ble ns.length 900 = true ∧ Put ((x, MO.ins C [] []) :: m0) p (.ins C' (ns ++ [("top" : Str)]) (ds ++ [d])) m3 ∧ N m3 :=
  ⟨_, _, _, _, _, rfl, .head, R.ins.cl, R.at_, rfl, rfl, .head, h⟩
theorem setN_bottom (R : RatC K C) (h : N ((x, .ins C ["top", "bottom"] [d, e]) :: m0)) : ∃ p C' ns ds m3, D.ref x = .ref p ∧ At ((x, MO.ins C ["top"] [d]) :: m0) p (.ins C' ns ds) ∧ Cls K C' ∧ NoAttr K C' "bottom" ∧ ns.contains "bottom" = false ∧ Nat.ble ns.length 900 = true ∧ Put ((x, MO.ins C ["top"] [d]) :: m0) p (.ins C' (ns ++ [("bottom" : Str)]) (ds ++ [e])) m3 ∧ N m3 :=
  ⟨_, _, _, _, _, rfl, .head, R.ins.cl, R.ab, cont_tb, rfl, .head, h⟩
end
/-- what is left mutable at a return is let go -/
theorem MutR.dropn {H : Hp} : ∀ {m : Mu} (k : Nat), MutR m H → MutR (m.drop k) H
  | _, 0, h => h
  | [], _ + 1, h => h
  | _ :: m, k + 1, h => MutR.dropn (m := m) k h.drop
theorem dom_dropn {a : Addr} : ∀ {m : Mu} (k : Nat), dom (m.drop k) a → dom m a
  | _, 0, h => h
  | [], _ + 1, h => h
  | _ :: m, k + 1, h => dom_cons.mpr (.inr (dom_dropn (m := m) k h))
theorem Ws.shed {W : WX} {E : ET} {t : TS} {r : Rho} {m : Mu} {P : DEnds} (h : Ws W E t r m { P with rt := fun d m' => ∃ k, P.rt d (m'.drop k) }) : Ws W E t r m P := fun s H De e z g =>
  h s H De e z ⟨g.nx, fun d m' v H' a b c ⟨k, q⟩ => by
    have ls : Stp (dom m') H' (dom (m'.drop k)) H' := Stp.less fun a z => dom_dropn k z
    exact g.rt d _ v H' (a.trans ls) (b.dropn k) (c.mono ls) q, g.bk, g.ct⟩
/-- a list of a function's values, from the end -/
theorem atI_neg {α : Type} {xs : List α} {n : Nat} {v : α} (h0 : 0 < n) (hn : n ≤ xs.length) (h : xs[xs.length - n]? = some v) : atI xs (-(n : Int)) = some v := by
  unfold atI ixN
  rw [if_neg (by omega), if_pos (by omega)]
  have e : (-(n : Int) + (xs.length : Int)).toNat = xs.length - n := by omega
  rw [e]
  exact h
theorem range_at {f : Nat → D} {n i : Nat} (h : i < n) : ((List.range n).map f)[i]? = some (f i) := by
  rw [List.getElem?_map, List.getElem?_range h]
  rfl
theorem range_m1 {f : Nat → D} (k : Nat) : atI ((List.range (k + 1)).map f) (-1) = some (f k) :=
  atI_neg (n := 1) (by omega) (by simp) (by simp only [List.length_map, List.length_range]; exact range_at (by omega))
theorem range_m2 {f : Nat → D} (k : Nat) : atI ((List.range (k + 2)).map f) (-2) = some (f k) :=
  atI_neg (n := 2) (by omega) (by simp) (by simp only [List.length_map, List.length_range]; exact range_at (by omega))
theorem range_snoc {f : Nat → D} (k : Nat) : (List.range k).map f ++ [f k] = (List.range (k + 1)).map f := by
  rw [List.range_succ, List.map_append]
  rfl
theorem pe_gcD {X : Cx} {x : Str} {v : V} {pos : Pos} (hg : Gl X x) (h : ∃ u, X.mg x = some u ∧ RelV v u) (hd : (x == ("__debug__" : Str)) = false := by decide) : PE X (.Name x pos) (tC v) := by
  obtain ⟨u, hm, r⟩ := h
  exact pe_glob hg hm r hd
/-! ### the end -/
def S_law (KF : PySem.W.Frag) : SpecD := fun ds m KK _ => ∃ d ns, ds = [d] ∧ ScrD KF d ns ∧ ns.length ≤ 63 ∧ (∀ z ∈ ns, Builtin.Int.intBits z ≤ 1048576) ∧ m = [] ∧ ∀ m', KK (.bl true) m'
theorem walkB {l : PySem.W.OpenLaw} {k : Nat} {q : Program} {loose : List Str} {XP : (Str → Option Value) → Heap → Prop} {YP : World → Heap → Prop} {d : DefRec} {K : Params → PySem.W.Frag} {x : Str}
    (hn : l.most = some 63) (hdf : d.params.defaults = []) (hr : Room k callerA)
    (hY : ∀ (w : World) (h : Heap), YP w h → (K w.params).In h)
    (F : ∀ (w : World) (mg : Str → Option Value) (fa : Addr) (h : Heap), (K w.params).In h → h.Ns mainGlobals mg → mg d.name = some (.ref fa) →
      ∃ fd : FuncData, (∀ (s : Shared) (u : Value), BindsTo s fd ⟨[u], []⟩ [(x, u)]) ∧
        ∀ base : Heap, (K w.params).In base → base.Ns mainGlobals mg → FnOk l.prog w (K w.params) mg base (L2N.CX l.prog w) k fa fd [x] (spD 1 (S_law (K w.params)))) :
    PySem.W.WalkO q loose XP YP l.row.toRowW d [] (fun f vs => PySem.call f vs) :=
  L2.walk_ofB (n := 63) (k := k) (x := x) (CX := fun w => L2N.CX l.prog w) (sp := fun w => spD 1 (S_law (K w.params))) hn (by decide) hdf hr hY F
    (fun w H a ns hl hb _ h => by
      obtain ⟨dd, sd, rp⟩ := scr_of h
      exact ⟨[dd], [], fun d' _ => d' = .bl true, fun _ _ => False, rfl, .cons rp .nil, MutR.nil H, ⟨dd, ns, rfl, sd, hl, hb, rfl, fun m' => rfl⟩, fun d' m' v H' _ _ rp' e => by subst e; cases rp'; rfl, fun _ _ _ _ _ _ _ _ e => e.elim⟩)
    fun w H s e s' z => by
      obtain ⟨_, _, _, _, _, _, _, _, _, _, _, _, z⟩ := z
      exact z.elim
end DL
set_option Elab.async false
set_option linter.all false
/-! M52: the plain laws of k52. -/
namespace K52
open DL
/-! ### lowest terms -/
def gc (t b : Int) : Int := (Nat.gcd t.natAbs b.natAbs : Nat)
def rT (t b : Int) : Int := if b < 0 then -t / gc t b else t / gc t b
def rB (t b : Int) : Int := if b < 0 then -b / gc t b else b / gc t b
theorem gc_pos {t b : Int} (h : b ≠ 0) : 0 < gc t b := by
  have : 0 < Nat.gcd t.natAbs b.natAbs := Nat.gcd_pos_of_pos_right _ (by omega)
  unfold gc; omega
theorem gc_dvd1 (t b : Int) : gc t b ∣ t := Int.ofNat_dvd_left.mpr (Nat.gcd_dvd_left _ _)
theorem gc_dvd2 (t b : Int) : gc t b ∣ b := Int.ofNat_dvd_left.mpr (Nat.gcd_dvd_right _ _)
theorem gc_bd {t b : Int} {n : Nat} (h : b ≠ 0) (hb : Bd n b) : Bd n (gc t b) := by
  have : Nat.gcd t.natAbs b.natAbs ≤ b.natAbs := Nat.le_of_dvd (by omega) (Nat.gcd_dvd_right _ _)
  unfold Bd gc at *
  omega
theorem fdiv_pos {a g : Int} (h : 0 < g) : a.fdiv g = a / g := Int.fdiv_eq_ediv_of_nonneg _ (by omega)
theorem fdiv_neg' {a g : Int} (h : 0 < g) (d : g ∣ a) : a.fdiv (-g) = -a / g := by
  obtain ⟨c, rfl⟩ := d
  have e1 : g * c = (-g) * (-c) := by rw [Int.neg_mul_neg]
  have e2 : -(g * c) = g * (-c) := by rw [Int.mul_neg]
  rw [e2, Int.mul_ediv_cancel_left _ (by omega), e1, Int.mul_comm]
  exact Int.mul_fdiv_cancel _ (by omega)
/-- t = g * rT up to the sign of b -/
theorem rat_eqs {t b : Int} (h : b ≠ 0) : ∃ g : Int, g ≠ 0 ∧ t = g * rT t b ∧ b = g * rB t b ∧ 0 < rB t b := by
  have gp := gc_pos (t := t) h
  obtain ⟨c, hc⟩ := gc_dvd1 t b
  obtain ⟨d, hd⟩ := gc_dvd2 t b
  by_cases hb : b < 0
  · refine ⟨-gc t b, by omega, ?_, ?_, ?_⟩
    · unfold rT; rw [if_pos hb]
      have : -t / gc t b = -c := by
        have e : -t = gc t b * (-c) := by rw [Int.mul_neg, ← hc]
        rw [e, Int.mul_ediv_cancel_left _ (by omega)]
      rw [this, Int.neg_mul_neg]; exact hc
    · unfold rB; rw [if_pos hb]
      have : -b / gc t b = -d := by
        have e : -b = gc t b * (-d) := by rw [Int.mul_neg, ← hd]
        rw [e, Int.mul_ediv_cancel_left _ (by omega)]
      rw [this, Int.neg_mul_neg]; exact hd
    · unfold rB; rw [if_pos hb]
      exact Int.ediv_pos_of_pos_of_dvd (by omega) (by omega) (Int.dvd_neg.mpr ⟨d, hd⟩)
  · refine ⟨gc t b, by omega, ?_, ?_, ?_⟩
    · unfold rT; rw [if_neg hb]
      have : t / gc t b = c := by
        have e : t = gc t b * c := hc
        rw [show t / gc t b = (gc t b * c) / gc t b by rw [← e], Int.mul_ediv_cancel_left _ (by omega)]
      rw [this]; exact hc
    · unfold rB; rw [if_neg hb]
      have : b / gc t b = d := by
        have e : b = gc t b * d := hd
        rw [show b / gc t b = (gc t b * d) / gc t b by rw [← e], Int.mul_ediv_cancel_left _ (by omega)]
      rw [this]; exact hd
    · unfold rB; rw [if_neg hb]
      exact Int.ediv_pos_of_pos_of_dvd (by omega) (by omega) ⟨d, hd⟩
theorem natAbs_div {a : Int} {g : Nat} (h : 0 < g) (d : (g : Int) ∣ a) : (a / (g : Int)).natAbs = a.natAbs / g := by
  obtain ⟨c, rfl⟩ := d
  rw [Int.mul_ediv_cancel_left _ (by omega), Int.natAbs_mul, Int.natAbs_natCast, Nat.mul_div_cancel_left _ h]
theorem rat_gcd {t b : Int} (h : b ≠ 0) : Nat.gcd (rT t b).natAbs (rB t b).natAbs = 1 := by
  have gp : 0 < Nat.gcd t.natAbs b.natAbs := Nat.gcd_pos_of_pos_right _ (by omega)
  have e1 : (rT t b).natAbs = t.natAbs / Nat.gcd t.natAbs b.natAbs := by
    unfold rT
    split
    · have := natAbs_div (a := -t) gp (Int.dvd_neg.mpr (gc_dvd1 t b))
      rw [Int.natAbs_neg] at this; exact this
    · exact natAbs_div gp (gc_dvd1 t b)
  have e2 : (rB t b).natAbs = b.natAbs / Nat.gcd t.natAbs b.natAbs := by
    unfold rB
    split
    · have := natAbs_div (a := -b) gp (Int.dvd_neg.mpr (gc_dvd2 t b))
      rw [Int.natAbs_neg] at this; exact this
    · exact natAbs_div gp (gc_dvd2 t b)
  rw [e1, e2]
  rw [Nat.gcd_div (Nat.gcd_dvd_left _ _) (Nat.gcd_dvd_right _ _)]
  exact Nat.div_self gp
theorem rat_bd {t b : Int} {n : Nat} (h : b ≠ 0) (ht : Bd n t) : Bd n (rT t b) := by
  obtain ⟨g, hg, e, _⟩ := rat_eqs (t := t) h
  have : t.natAbs = g.natAbs * (rT t b).natAbs := by rw [← Int.natAbs_mul, ← e]
  have hp : 1 ≤ g.natAbs := by omega
  have : (rT t b).natAbs ≤ t.natAbs := by
    rw [this]
    calc (rT t b).natAbs = 1 * (rT t b).natAbs := (Nat.one_mul _).symm
      _ ≤ _ := Nat.mul_le_mul_right _ hp
  unfold Bd at *
  omega
theorem rat_bdB {t b : Int} {n : Nat} (h : b ≠ 0) (ht : Bd n b) : Bd n (rB t b) := by
  obtain ⟨g, hg, _, e, _⟩ := rat_eqs (t := t) h
  have : b.natAbs = g.natAbs * (rB t b).natAbs := by rw [← Int.natAbs_mul, ← e]
  have hp : 1 ≤ g.natAbs := by omega
  have : (rB t b).natAbs ≤ b.natAbs := by
    rw [this]
    calc (rB t b).natAbs = 1 * (rB t b).natAbs := (Nat.one_mul _).symm
      _ ≤ _ := Nat.mul_le_mul_right _ hp
  unfold Bd at *
  omega
/-! ### the recurrence -/
def sq (x p q : Int) : Nat → Int
  | 0 => 1
  | 1 => x
  | k + 2 => 2 * p * sq x p q (k + 1) - q * q * sq x p q k
theorem sq_hom (g x p q : Int) : ∀ k : Nat, sq (g * x) (g * p) (g * q) k = g ^ k * sq x p q k ∧ sq (g * x) (g * p) (g * q) (k + 1) = g ^ (k + 1) * sq x p q (k + 1)
  | 0 => by simp [sq, Int.pow_succ]
  | k + 1 => by
    obtain ⟨h1, h2⟩ := sq_hom g x p q k
    refine ⟨h2, ?_⟩
    show 2 * (g * p) * sq (g * x) (g * p) (g * q) (k + 1) - (g * q) * (g * q) * sq (g * x) (g * p) (g * q) k = g ^ (k + 2) * (2 * p * sq x p q (k + 1) - q * q * sq x p q k)
    rw [h1, h2, Int.pow_succ g (k + 1), Int.pow_succ g k]
    grind
theorem bd_one {n : Nat} (h : 0 < n) : Bd n 1 := by
  unfold Bd
  have : 2 ^ 1 ≤ 2 ^ n := Nat.pow_le_pow_right (by decide) h
  simp only [Int.natAbs_one]
  omega
theorem sq_bd {x p q : Int} {a : Nat} (hx : Bd (a + 1) x) (hp : Bd a p) (hq : Bd a q) : ∀ k : Nat, Bd (k * (a + 2) + 1) (sq x p q k) ∧ Bd ((k + 1) * (a + 2) + 1) (sq x p q (k + 1))
  | 0 => ⟨bd_one (by omega), hx.mono (by omega)⟩
  | k + 1 => by
    obtain ⟨h1, h2⟩ := sq_bd hx hp hq k
    refine ⟨h2, ?_⟩
    show Bd ((k + 2) * (a + 2) + 1) (2 * p * sq x p q (k + 1) - q * q * sq x p q k)
    have e0 : (2 * p * sq x p q (k + 1) : Int) = 2 * (p * sq x p q (k + 1)) := Int.mul_assoc ..
    have m1 : (p * sq x p q (k + 1)).natAbs < 2 ^ (a + ((k + 1) * (a + 2) + 1)) := Bd.mul hp h2
    have m2 : (q * q * sq x p q k).natAbs < 2 ^ (a + a + (k * (a + 2) + 1)) := Bd.mul (Bd.mul hq hq) h1
    have e1 : (k + 2) * (a + 2) + 1 = a + ((k + 1) * (a + 2) + 1) + 2 := by
      have : (k + 2) * (a + 2) = (k + 1) * (a + 2) + (a + 2) := Nat.succ_mul _ _
      omega
    have l2 : 2 ^ (a + a + (k * (a + 2) + 1)) ≤ 2 ^ (a + ((k + 1) * (a + 2) + 1)) := Nat.pow_le_pow_right (by decide) (by
      have : (k + 1) * (a + 2) = k * (a + 2) + (a + 2) := Nat.succ_mul _ _
      omega)
    unfold Bd
    rw [e1, Nat.pow_add, e0]
    have : (2 : Nat) ^ 2 = 4 := by decide
    rw [this]
    omega
/-- the second kind one place ahead -/
def sqb (p q : Int) : Nat → Int
  | 0 => 0
  | j + 1 => sq (2 * p) p q j
theorem sq_pair (p q : Int) : ∀ k : Nat, (sq p p q (k + 1) = p * sq p p q k + (p * p - q * q) * sqb p q k ∧ sqb p q (k + 1) = sq p p q k + p * sqb p q k) ∧
    (sq p p q (k + 2) = p * sq p p q (k + 1) + (p * p - q * q) * sqb p q (k + 1) ∧ sqb p q (k + 2) = sq p p q (k + 1) + p * sqb p q (k + 1))
  | 0 => by
    simp only [sq, sqb]
    refine ⟨⟨?_, ?_⟩, ?_, ?_⟩ <;> grind
  | k + 1 => by
    obtain ⟨⟨a1, a2⟩, b1, b2⟩ := sq_pair p q k
    refine ⟨⟨b1, b2⟩, ?_, ?_⟩
    · have e1 : sq p p q (k + 3) = 2 * p * sq p p q (k + 2) - q * q * sq p p q (k + 1) := rfl
      grind
    · have e1 : sqb p q (k + 3) = 2 * p * sqb p q (k + 2) - q * q * sqb p q (k + 1) := rfl
      have e2 : sq p p q (k + 2) = 2 * p * sq p p q (k + 1) - q * q * sq p p q k := rfl
      grind
theorem sq_pell (p q : Int) : ∀ k : Nat, sq p p q k * sq p p q k = q ^ k * q ^ k + (p * p - q * q) * (sqb p q k * sqb p q k)
  | 0 => by simp [sq, sqb]
  | k + 1 => by
    have h := sq_pell p q k
    obtain ⟨⟨a1, a2⟩, _⟩ := sq_pair p q k
    rw [a1, a2, Int.pow_succ]
    grind
theorem sq_half (t b : Int) : ∀ k : Nat, (2 * sq (t * t + b * b) (t * t + b * b) (2 * t * b) k = 2 ^ k * (t ^ k * t ^ k + b ^ k * b ^ k)) ∧
    (2 * sq (t * t + b * b) (t * t + b * b) (2 * t * b) (k + 1) = 2 ^ (k + 1) * (t ^ (k + 1) * t ^ (k + 1) + b ^ (k + 1) * b ^ (k + 1)))
  | 0 => by
    simp only [sq, Int.pow_succ, Int.pow_zero]
    constructor <;> grind
  | k + 1 => by
    obtain ⟨h1, h2⟩ := sq_half t b k
    refine ⟨h2, ?_⟩
    have e1 : sq (t * t + b * b) (t * t + b * b) (2 * t * b) (k + 2) = 2 * (t * t + b * b) * sq (t * t + b * b) (t * t + b * b) (2 * t * b) (k + 1) - 2 * t * b * (2 * t * b) * sq (t * t + b * b) (t * t + b * b) (2 * t * b) k := rfl
    rw [e1]
    simp only [Int.pow_succ] at *
    grind
/-! ### Euclid's turns -/
def Eu (a k x y : Nat) : Prop := (k = 0 ∧ x < 2 ^ a ∧ y < 2 ^ a) ∨ (1 ≤ k ∧ k ≤ a + a + 1 ∧ y < x ∧ x * y * 2 ^ (k - 1) < 2 ^ (a + a))
theorem Eu.step {a k x y : Nat} (h : Eu a k x y) (hy : 0 < y) : Eu a (k + 1) y (x % y) := by
  have hm := Nat.mod_lt x hy
  rcases h with ⟨rfl, h1, h2⟩ | ⟨h1, h2, h3, h4⟩
  · refine .inr ⟨by omega, by omega, hm, ?_⟩
    rw [show (0 + 1 - 1 : Nat) = 0 from rfl, Nat.pow_zero, Nat.mul_one, Nat.pow_add]
    exact Nat.mul_lt_mul'' h2 (Nat.lt_of_le_of_lt (Nat.mod_le _ _) h1)
  · have hx : 1 ≤ x * y := Nat.mul_pos (by omega) hy
    have l1 : 2 ^ (k - 1) < 2 ^ (a + a) := Nat.lt_of_le_of_lt (by
      calc 2 ^ (k - 1) = 1 * 2 ^ (k - 1) := (Nat.one_mul _).symm
        _ ≤ x * y * 2 ^ (k - 1) := Nat.mul_le_mul_right _ hx) h4
    have l2 : k - 1 < a + a := (Nat.pow_lt_pow_iff_right (by decide)).mp l1
    refine .inr ⟨by omega, by omega, hm, ?_⟩
    have e : 2 ^ (k + 1 - 1) = 2 * 2 ^ (k - 1) := by
      rw [show k + 1 - 1 = (k - 1) + 1 by omega, Nat.pow_succ, Nat.mul_comm]
    have two : 2 * (x % y) ≤ x := by
      have e1 := Nat.div_add_mod x y
      have q : 1 ≤ x / y := (Nat.one_le_div_iff hy).mpr (by omega)
      have : y * 1 ≤ y * (x / y) := Nat.mul_le_mul_left _ q
      omega
    calc y * (x % y) * 2 ^ (k + 1 - 1) = y * (2 * (x % y)) * 2 ^ (k - 1) := by rw [e]; ac_rfl
      _ ≤ y * x * 2 ^ (k - 1) := Nat.mul_le_mul_right _ (Nat.mul_le_mul_left _ two)
      _ = x * y * 2 ^ (k - 1) := by rw [Nat.mul_comm y x]
      _ < _ := h4
theorem Eu.early {a k x y : Nat} (h : Eu a k x y) (hk : a + a + 1 < k) : False := by
  rcases h with ⟨rfl, _⟩ | ⟨_, h, _⟩ <;> omega
/-! ### powers -/
theorem bd_pow {x : Int} {n : Nat} (h : Bd n x) : ∀ k : Nat, Bd (k * n + 1) (x ^ k)
  | 0 => by rw [Int.pow_zero]; exact bd_one (by omega)
  | k + 1 => by
    rw [Int.pow_succ]
    have := Bd.mul (bd_pow h k) h
    exact this.mono (by rw [Nat.succ_mul]; omega)
theorem bd_two {a : Nat} {x : Int} (h : Bd a x) : Bd (a + 1) (2 * x) := by
  unfold Bd at *
  rw [Nat.pow_succ]
  omega
/-! ### the laws -/
theorem pnz {x : Int} (n : Nat) (h : x ≠ 0) : x ^ n ≠ 0 := Int.pow_ne_zero h
theorem cross_own {g P Q x : Int} {n : Nat} (hQ : Q ≠ 0) : rT (sq x P Q n) (Q ^ n) * (g * Q) ^ n = sq (g * x) (g * P) (g * Q) n * rB (sq x P Q n) (Q ^ n) := by
  obtain ⟨h, hh, e1, e2, _⟩ := rat_eqs (t := sq x P Q n) (b := Q ^ n) (pnz n hQ)
  rw [(sq_hom g x P Q n).1, Int.mul_pow]
  generalize rT (sq x P Q n) (Q ^ n) = t at *
  generalize rB (sq x P Q n) (Q ^ n) = b at *
  rw [e1, e2]
  ac_rfl
theorem cancel2 {h k x y : Int} (hh : h ≠ 0) (hk : k ≠ 0) (e : h * k * x = h * k * y) : x = y :=
  Int.eq_of_mul_eq_mul_left (Int.mul_ne_zero hh hk) e
theorem squares_law {g P Q p q : Int} {n : Nat} (hQ : Q ≠ 0) (ep : p = g * P) (eq : q = g * Q) (o0 o1 w0 w1 : Int) (h1 : o0 = rT (sq P P Q (n + 1)) (Q ^ (n + 1))) (h2 : o1 = rB (sq P P Q (n + 1)) (Q ^ (n + 1)))
    (h3 : w0 = rT (sq (2 * P) P Q n) (Q ^ n)) (h4 : w1 = rB (sq (2 * P) P Q n) (Q ^ n)) :
    o0 * o0 * (q * w1) * (q * w1) = o1 * o1 * (q * w1 * (q * w1) + (p * p - q * q) * w0 * w0) := by
  obtain ⟨h, hh, e1, e2, _⟩ := rat_eqs (t := sq P P Q (n + 1)) (b := Q ^ (n + 1)) (pnz (n + 1) hQ)
  obtain ⟨k, hk, e3, e4, _⟩ := rat_eqs (t := sq (2 * P) P Q n) (b := Q ^ n) (pnz n hQ)
  have pell := sq_pell P Q (n + 1)
  have eb : sqb P Q (n + 1) = sq (2 * P) P Q n := rfl
  rw [eb] at pell
  rw [← h1] at e1
  rw [← h2] at e2
  rw [← h3] at e3
  rw [← h4] at e4
  generalize sq P P Q (n + 1) = c at *
  generalize sq (2 * P) P Q n = d at *
  have eQ : Q ^ (n + 1) = Q ^ n * Q := Int.pow_succ ..
  generalize Q ^ (n + 1) = Z at *
  generalize Q ^ n = Y at *
  have hz : h * h * (k * k) ≠ 0 := Int.mul_ne_zero (Int.mul_ne_zero hh hh) (Int.mul_ne_zero hk hk)
  refine Int.eq_of_mul_eq_mul_left hz ?_
  subst ep eq
  have l1 : h * h * (k * k) * (o0 * o0 * (g * Q * w1) * (g * Q * w1)) = (h * o0) * (h * o0) * (g * g * (Q * (k * w1)) * (Q * (k * w1))) := by ac_rfl
  have l2 : h * h * (k * k) * (o1 * o1 * (g * Q * w1 * (g * Q * w1) + (g * P * (g * P) - g * Q * (g * Q)) * w0 * w0)) = (h * o1) * (h * o1) * (g * g * ((Q * (k * w1)) * (Q * (k * w1)) + (P * P - Q * Q) * ((k * w0) * (k * w0)))) := by grind
  rw [l1, l2, ← e1, ← e2, ← e3, ← e4]
  grind
theorem halves_law {t b g P Q : Int} {n : Nat} (ht : t ≠ 0) (hb : b ≠ 0) (hQ : Q ≠ 0) (eU : t * t + b * b = g * P) (eV : 2 * t * b = g * Q) :
    rT (sq P P Q n) (Q ^ n) * (2 * t ^ n * b ^ n) = (t ^ n * t ^ n + b ^ n * b ^ n) * rB (sq P P Q n) (Q ^ n) := by
  obtain ⟨h, hh, e1, e2, _⟩ := rat_eqs (t := sq P P Q n) (b := Q ^ n) (pnz n hQ)
  have hg : g ≠ 0 := fun z => by
    rw [z, Int.zero_mul] at eV
    exact Int.mul_ne_zero (Int.mul_ne_zero (by decide) ht) hb eV
  have hom := (sq_hom g P P Q n).1
  rw [← eU, ← eV] at hom
  have half := (sq_half t b n).1
  have eVn : 2 ^ n * t ^ n * b ^ n = g ^ n * Q ^ n := by rw [← Int.mul_pow, ← Int.mul_pow, ← Int.mul_pow, eV]
  rw [hom] at half
  generalize rT (sq P P Q n) (Q ^ n) = x at *
  generalize rB (sq P P Q n) (Q ^ n) = y at *
  generalize sq P P Q n = c at *
  generalize Q ^ n = Z at *
  have h2 : (2 : Int) ^ n ≠ 0 := Int.pow_ne_zero (by decide)
  have hgn : g ^ n ≠ 0 := Int.pow_ne_zero hg
  generalize g ^ n = gn at *
  generalize (2 : Int) ^ n = tw at *
  generalize t ^ n = tn at *
  generalize b ^ n = bn at *
  have hz : h * gn * tw ≠ 0 := Int.mul_ne_zero (Int.mul_ne_zero hh hgn) h2
  refine Int.eq_of_mul_eq_mul_left hz ?_
  grind
end K52
set_option Elab.async false
set_option linter.all false
set_option maxRecDepth 100000
namespace K52
open PySem PySem.Spec L2 DL
open PyProof.Rows hiding St
def top (i : Nat) : Stmt := PySem.Challenge.pw_fewcarry_k52_kinds.main.body.getD i (.Pass ⟨0, 0, 0, 0⟩)
abbrev s_OutOfBounds___init__ : Stmt := inClass (top 5) 0
abbrev s_Ratio___init__ : Stmt := inClass (top 14) 0
abbrev s_first_kind : Stmt := top 17
abbrev s_second_kind : Stmt := top 18
abbrev s__of_degree : Stmt := top 19
abbrev s__law_pot : Stmt := top 21
abbrev s__law_digit : Stmt := top 22
abbrev s__law_whole : Stmt := top 23
abbrev s__law_common : Stmt := top 24
abbrev s__law_told : Stmt := top 25
abbrev s__law_same : Stmt := top 26
abbrev s__law_power : Stmt := top 27
abbrev s__law_own : Stmt := top 28
abbrev s__law_fraction : Stmt := top 29
abbrev s__law_both : Stmt := top 30
abbrev s__law_squares : Stmt := top 31
abbrev s__law_halves : Stmt := top 32
abbrev s__law_refused : Stmt := top 33
abbrev s_law : Stmt := top 34

theorem nd_self : (("self" : Str) == ("__debug__" : Str)) = false ∧ (("self" : Str) == ("__classdict__" : Str)) = false := ⟨by decide +kernel, by decide +kernel⟩
theorem nd_value : (("value" : Str) == ("__debug__" : Str)) = false ∧ (("value" : Str) == ("__classdict__" : Str)) = false := ⟨by decide +kernel, by decide +kernel⟩
theorem nd_top : (("top" : Str) == ("__debug__" : Str)) = false ∧ (("top" : Str) == ("__classdict__" : Str)) = false := ⟨by decide +kernel, by decide +kernel⟩
theorem nd_bottom : (("bottom" : Str) == ("__debug__" : Str)) = false ∧ (("bottom" : Str) == ("__classdict__" : Str)) = false := ⟨by decide +kernel, by decide +kernel⟩
theorem nd_shared : (("shared" : Str) == ("__debug__" : Str)) = false ∧ (("shared" : Str) == ("__classdict__" : Str)) = false := ⟨by decide +kernel, by decide +kernel⟩
theorem nd_many : (("many" : Str) == ("__debug__" : Str)) = false ∧ (("many" : Str) == ("__classdict__" : Str)) = false := ⟨by decide +kernel, by decide +kernel⟩
theorem nd_double : (("double" : Str) == ("__debug__" : Str)) = false ∧ (("double" : Str) == ("__classdict__" : Str)) = false := ⟨by decide +kernel, by decide +kernel⟩
theorem nd_squared : (("squared" : Str) == ("__debug__" : Str)) = false ∧ (("squared" : Str) == ("__classdict__" : Str)) = false := ⟨by decide +kernel, by decide +kernel⟩
theorem nd_current : (("current" : Str) == ("__debug__" : Str)) = false ∧ (("current" : Str) == ("__classdict__" : Str)) = false := ⟨by decide +kernel, by decide +kernel⟩
theorem nd_after : (("after" : Str) == ("__debug__" : Str)) = false ∧ (("after" : Str) == ("__classdict__" : Str)) = false := ⟨by decide +kernel, by decide +kernel⟩
theorem nd__ : (("_" : Str) == ("__debug__" : Str)) = false ∧ (("_" : Str) == ("__classdict__" : Str)) = false := ⟨by decide +kernel, by decide +kernel⟩
theorem nd_script : (("script" : Str) == ("__debug__" : Str)) = false ∧ (("script" : Str) == ("__classdict__" : Str)) = false := ⟨by decide +kernel, by decide +kernel⟩
theorem nd_cell : (("cell" : Str) == ("__debug__" : Str)) = false ∧ (("cell" : Str) == ("__classdict__" : Str)) = false := ⟨by decide +kernel, by decide +kernel⟩
theorem nd_pot : (("pot" : Str) == ("__debug__" : Str)) = false ∧ (("pot" : Str) == ("__classdict__" : Str)) = false := ⟨by decide +kernel, by decide +kernel⟩
theorem nd_digit : (("digit" : Str) == ("__debug__" : Str)) = false ∧ (("digit" : Str) == ("__classdict__" : Str)) = false := ⟨by decide +kernel, by decide +kernel⟩
theorem nd_one : (("one" : Str) == ("__debug__" : Str)) = false ∧ (("one" : Str) == ("__classdict__" : Str)) = false := ⟨by decide +kernel, by decide +kernel⟩
theorem nd_two : (("two" : Str) == ("__debug__" : Str)) = false ∧ (("two" : Str) == ("__classdict__" : Str)) = false := ⟨by decide +kernel, by decide +kernel⟩
theorem nd_step : (("step" : Str) == ("__debug__" : Str)) = false ∧ (("step" : Str) == ("__classdict__" : Str)) = false := ⟨by decide +kernel, by decide +kernel⟩
theorem nd_rest : (("rest" : Str) == ("__debug__" : Str)) = false ∧ (("rest" : Str) == ("__classdict__" : Str)) = false := ⟨by decide +kernel, by decide +kernel⟩
theorem nd_told : (("told" : Str) == ("__debug__" : Str)) = false ∧ (("told" : Str) == ("__classdict__" : Str)) = false := ⟨by decide +kernel, by decide +kernel⟩
theorem nd_pair : (("pair" : Str) == ("__debug__" : Str)) = false ∧ (("pair" : Str) == ("__classdict__" : Str)) = false := ⟨by decide +kernel, by decide +kernel⟩
theorem nd_number : (("number" : Str) == ("__debug__" : Str)) = false ∧ (("number" : Str) == ("__classdict__" : Str)) = false := ⟨by decide +kernel, by decide +kernel⟩
theorem nd_total : (("total" : Str) == ("__debug__" : Str)) = false ∧ (("total" : Str) == ("__classdict__" : Str)) = false := ⟨by decide +kernel, by decide +kernel⟩
theorem nd_k : (("k" : Str) == ("__debug__" : Str)) = false ∧ (("k" : Str) == ("__classdict__" : Str)) = false := ⟨by decide +kernel, by decide +kernel⟩
theorem nd_first : (("first" : Str) == ("__debug__" : Str)) = false ∧ (("first" : Str) == ("__classdict__" : Str)) = false := ⟨by decide +kernel, by decide +kernel⟩
theorem nd_second : (("second" : Str) == ("__debug__" : Str)) = false ∧ (("second" : Str) == ("__classdict__" : Str)) = false := ⟨by decide +kernel, by decide +kernel⟩
theorem nd_over : (("over" : Str) == ("__debug__" : Str)) = false ∧ (("over" : Str) == ("__classdict__" : Str)) = false := ⟨by decide +kernel, by decide +kernel⟩
theorem nd_gap : (("gap" : Str) == ("__debug__" : Str)) = false ∧ (("gap" : Str) == ("__classdict__" : Str)) = false := ⟨by decide +kernel, by decide +kernel⟩
theorem nd_right : (("right" : Str) == ("__debug__" : Str)) = false ∧ (("right" : Str) == ("__classdict__" : Str)) = false := ⟨by decide +kernel, by decide +kernel⟩
theorem nd_due : (("due" : Str) == ("__debug__" : Str)) = false ∧ (("due" : Str) == ("__classdict__" : Str)) = false := ⟨by decide +kernel, by decide +kernel⟩
theorem nd_kind : (("kind" : Str) == ("__debug__" : Str)) = false ∧ (("kind" : Str) == ("__classdict__" : Str)) = false := ⟨by decide +kernel, by decide +kernel⟩
theorem nd_e : (("e" : Str) == ("__debug__" : Str)) = false ∧ (("e" : Str) == ("__classdict__" : Str)) = false := ⟨by decide +kernel, by decide +kernel⟩
theorem nd_half : (("half" : Str) == ("__debug__" : Str)) = false ∧ (("half" : Str) == ("__classdict__" : Str)) = false := ⟨by decide +kernel, by decide +kernel⟩
theorem nd_below : (("below" : Str) == ("__debug__" : Str)) = false ∧ (("below" : Str) == ("__classdict__" : Str)) = false := ⟨by decide +kernel, by decide +kernel⟩
theorem nd_above : (("above" : Str) == ("__debug__" : Str)) = false ∧ (("above" : Str) == ("__classdict__" : Str)) = false := ⟨by decide +kernel, by decide +kernel⟩
theorem nd_BadNumber : (("BadNumber" : Str) == ("__debug__" : Str)) = false ∧ (("BadNumber" : Str) == ("__classdict__" : Str)) = false := ⟨by decide +kernel, by decide +kernel⟩
theorem nd_CarryError : (("CarryError" : Str) == ("__debug__" : Str)) = false ∧ (("CarryError" : Str) == ("__classdict__" : Str)) = false := ⟨by decide +kernel, by decide +kernel⟩
theorem nd_OutOfBounds : (("OutOfBounds" : Str) == ("__debug__" : Str)) = false ∧ (("OutOfBounds" : Str) == ("__classdict__" : Str)) = false := ⟨by decide +kernel, by decide +kernel⟩
theorem nd_ZeroBottom : (("ZeroBottom" : Str) == ("__debug__" : Str)) = false ∧ (("ZeroBottom" : Str) == ("__classdict__" : Str)) = false := ⟨by decide +kernel, by decide +kernel⟩
abbrev N_OutOfBounds___init__ : List Str := ["self", "value"]
theorem sc_OutOfBounds___init__ : FnScope N_OutOfBounds___init__ ["self", "value"] (defScope s_OutOfBounds___init__) := ⟨rfl, rfl, rfl, by decide +kernel, rfl, by decide +kernel, by decide +kernel⟩
abbrev N_Ratio___init__ : List Str := ["self", "top", "bottom", "shared"]
theorem sc_Ratio___init__ : FnScope N_Ratio___init__ ["self", "top", "bottom"] (defScope s_Ratio___init__) := ⟨rfl, rfl, rfl, by decide +kernel, rfl, by decide +kernel, by decide +kernel⟩
abbrev N_first_kind : List Str := ["value", "many"]
theorem sc_first_kind : FnScope N_first_kind ["value", "many"] (defScope s_first_kind) := ⟨rfl, rfl, rfl, by decide +kernel, rfl, by decide +kernel, by decide +kernel⟩
abbrev N_second_kind : List Str := ["value", "many"]
theorem sc_second_kind : FnScope N_second_kind ["value", "many"] (defScope s_second_kind) := ⟨rfl, rfl, rfl, by decide +kernel, rfl, by decide +kernel, by decide +kernel⟩
abbrev N__of_degree : List Str := ["value", "top", "many", "double", "squared", "current", "after", "bottom", "_"]
theorem sc__of_degree : FnScope N__of_degree ["value", "top", "many"] (defScope s__of_degree) := ⟨rfl, rfl, rfl, by decide +kernel, rfl, by decide +kernel, by decide +kernel⟩
abbrev N__law_pot : List Str := ["script", "cell"]
theorem sc__law_pot : FnScope N__law_pot ["script"] (defScope s__law_pot) := ⟨rfl, rfl, rfl, by decide +kernel, rfl, by decide +kernel, by decide +kernel⟩
abbrev N__law_digit : List Str := ["pot", "many", "digit"]
theorem sc__law_digit : FnScope N__law_digit ["pot", "many"] (defScope s__law_digit) := ⟨rfl, rfl, rfl, by decide +kernel, rfl, by decide +kernel, by decide +kernel⟩
abbrev N__law_whole : List Str := ["value"]
theorem sc__law_whole : FnScope N__law_whole ["value"] (defScope s__law_whole) := ⟨rfl, rfl, rfl, by decide +kernel, rfl, by decide +kernel, by decide +kernel⟩
abbrev N__law_common : List Str := ["one", "two", "step", "rest"]
theorem sc__law_common : FnScope N__law_common ["one", "two"] (defScope s__law_common) := ⟨rfl, rfl, rfl, by decide +kernel, rfl, by decide +kernel, by decide +kernel⟩
abbrev N__law_told : List Str := ["value", "top", "bottom"]
theorem sc__law_told : FnScope N__law_told ["value"] (defScope s__law_told) := ⟨rfl, rfl, rfl, by decide +kernel, rfl, by decide +kernel, by decide +kernel⟩
abbrev N__law_same : List Str := ["told", "pair"]
theorem sc__law_same : FnScope N__law_same ["told", "pair"] (defScope s__law_same) := ⟨rfl, rfl, rfl, by decide +kernel, rfl, by decide +kernel, by decide +kernel⟩
abbrev N__law_power : List Str := ["number", "many", "total", "k"]
theorem sc__law_power : FnScope N__law_power ["number", "many"] (defScope s__law_power) := ⟨rfl, rfl, rfl, by decide +kernel, rfl, by decide +kernel, by decide +kernel⟩
abbrev N__law_own : List Str := ["pair", "many", "top", "bottom", "first", "second", "k", "over"]
theorem sc__law_own : FnScope N__law_own ["pair", "many"] (defScope s__law_own) := ⟨rfl, rfl, rfl, by decide +kernel, rfl, by decide +kernel, by decide +kernel⟩
abbrev N__law_fraction : List Str := ["pot", "top", "bottom"]
theorem sc__law_fraction : FnScope N__law_fraction ["pot"] (defScope s__law_fraction) := ⟨rfl, rfl, rfl, by decide +kernel, rfl, by decide +kernel, by decide +kernel⟩
abbrev N__law_both : List Str := ["pair", "many", "value", "one", "two", "first", "second"]
theorem sc__law_both : FnScope N__law_both ["pair", "many"] (defScope s__law_both) := ⟨rfl, rfl, rfl, by decide +kernel, rfl, by decide +kernel, by decide +kernel⟩
abbrev N__law_squares : List Str := ["pair", "many", "value", "one", "two", "bottom", "gap", "right"]
theorem sc__law_squares : FnScope N__law_squares ["pair", "many"] (defScope s__law_squares) := ⟨rfl, rfl, rfl, by decide +kernel, rfl, by decide +kernel, by decide +kernel⟩
abbrev N__law_halves : List Str := ["pair", "many", "top", "bottom", "value", "one", "two", "due"]
theorem sc__law_halves : FnScope N__law_halves ["pair", "many"] (defScope s__law_halves) := ⟨rfl, rfl, rfl, by decide +kernel, rfl, by decide +kernel, by decide +kernel⟩
abbrev N__law_refused : List Str := ["kind", "value", "many", "e"]
theorem sc__law_refused : FnScope N__law_refused ["kind", "value", "many"] (defScope s__law_refused) := ⟨rfl, rfl, rfl, by decide +kernel, rfl, by decide +kernel, by decide +kernel⟩
abbrev N_law : List Str := ["script", "pot", "pair", "top", "bottom", "many", "half", "number", "value", "below", "above"]
theorem sc_law : FnScope N_law ["script"] (defScope s_law) := ⟨rfl, rfl, rfl, by decide +kernel, rfl, by decide +kernel, by decide +kernel⟩

theorem bt_abs : bootBuiltins "abs" = some (.builtin "abs") := by decide +kernel
theorem bt_len : bootBuiltins "len" = some (.builtin "len") := by decide +kernel
theorem bt_min : bootBuiltins "min" = some (.builtin "min") := by decide +kernel
theorem bt_int : bootBuiltins "int" = some (.type "int") := by decide +kernel
theorem bt_bool : bootBuiltins "bool" = some (.type "bool") := by decide +kernel
theorem bt_isinstance : bootBuiltins "isinstance" = some (.builtin "isinstance") := by decide +kernel

structure Txt (G : Gx) (C_Ratio C_OutOfBounds : Addr) : Prop where
  n_abs : G.mg "abs" = none
  n_len : G.mg "len" = none
  n_min : G.mg "min" = none
  n_int : G.mg "int" = none
  n_bool : G.mg "bool" = none
  n_range : G.mg "range" = none
  n_isinstance : G.mg "isinstance" = none
  mg_gcd : G.mg "gcd" = some (.builtin "math.gcd")
  mg_Ratio : G.mg "Ratio" = some (.ref C_Ratio)
  R : RatC G.K C_Ratio
  gc_MOST_ROUNDS : ∃ u, G.mg "MOST_ROUNDS" = some u ∧ L2.RelV (.int 100) u
  kRR : PySem.W.kitOne G.K (.ref C_Ratio) (.ref C_Ratio) = some true
  mg_OutOfBounds : G.mg "OutOfBounds" = some (.ref C_OutOfBounds)

/-! one step -/
local macro_rules | `(tactic| walk_at "dl1") => `(tactic| first
  | (with_reducible first
    | refine ws_seq ?_ | refine ws_ret ?_ | refine ws_asg ?_ | refine ws_next ?_ | refine ws_drop ?_ | refine ws_par ?_ | refine ws_par3 ?_ | refine ws_fldN ?_
    | refine wt_test ?_ | refine wt_tr ?_ | refine wt_and ?_ | refine wt_or ?_ | refine wt_not ?_
    | refine we_cint ?_ | refine we_cbl ?_ | refine we_cnon ?_ | refine we_cty ?_ | refine we_cref ?_
    | refine we_2 ?_ | refine we_1 ?_ | refine we_op ?_ | refine we_c2 ?_ | refine we_tup ?_ | refine we_andV ?_ | refine we_orV ?_ | refine we_notV ?_ | refine we_3 ?_ | refine we_fldF ?_ | refine we_cl0 ?_ | refine we_clH ?_
    | refine wa_nil ?_ | refine wa_cons ?_ | refine wg_name ?_ | refine wg_subM ?_ | refine wg_tup rfl ?_ | refine wgs_cons ?_ | refine wgs_nil ?_
    | refine w2_add ?_ | refine w2_sub ?_ | refine w2_mul ⟨?_, ?_⟩ | refine w2_fdiv ⟨?_, ?_⟩ | refine w2_mod ⟨?_, ?_⟩ | refine w2_pow ⟨?_, ?_⟩ | refine w2_eqI ?_ | refine w2_neI ?_ | refine w2_eqIH ?_ | refine w2_lt ?_ | refine w2_le ?_ | refine w2_gt ?_ | refine w2_ge ?_ | refine w1_neg ?_ | refine w2_isN ?_ | refine w2_notN ?_
    | refine wc_int ?_ | refine wc_abs ?_ | refine wc_min ?_ | refine wc_gcd ?_
    | refine wc_isiT .int kit_ii ?_ | refine wc_isiT .int kit_ib ?_)
  | ((with_reducible refine we_var (d := ?d) ?hv ?hk); case hv => rfl)
  | ((with_reducible refine w2_ixT (d := ?d) ⟨?hv, ?hk⟩); case hv => rfl)
  | ((with_reducible refine w2_ixL (d := ?d) ⟨?hv, ?hk⟩); case hv => rfl)
  | ((with_reducible refine w2_ixM (d := ?d) .head ⟨?hv, ?hk⟩); case hv => rfl)
  | (with_reducible refine wc_len .lst ?_) | (with_reducible refine wc_len .tup ?_)
  | (with_reducible refine fld_top (by assumption) ?_) | (with_reducible refine fld_bottom (by assumption) ?_)
  | (with_reducible refine setN_top (by assumption) ?_) | (with_reducible refine setN_bottom (by assumption) ?_)
  | fail)
local macro_rules | `(tactic| walk_at "dl2") => `(tactic| first
  | (with_reducible refine ⟨_, rfl, ?_⟩)
  | (with_reducible refine ⟨_, .bl, ?_⟩)
  | ((with_reducible refine ⟨?h, ?_⟩); case h => rfl)
  | (with_reducible refine ⟨_, _, rfl, ?_⟩)
  | (with_reducible refine ⟨_, _, _, rfl, ?_⟩)
  | ((with_reducible refine ⟨_, _, _, ?j, _, rfl, rfl, .head, ?h, .head, ?_⟩); case h => rfl)
  | fail)
local macro_rules | `(tactic| walk_at "br") => `(tactic| ((with_reducible refine ⟨fun hb => ?_, fun hb => ?_⟩) <;> (try simp only [decide_eq_true_eq, decide_eq_false_iff_not, Bool.not_eq_true', Bool.not_eq_false', Bool.and_eq_true, Bool.or_eq_true, reduceCtorEq, List.length_map, Bool.not_true, Bool.not_false, isNon] at hb)))
local macro_rules | `(tactic| walk_at "wif") => `(tactic| (with_reducible refine ws_if ?_))
local macro_rules | `(tactic| walk_at "dl") => `(tactic| repeat (first | walk_at "dl1" | walk_at "wif" | walk_at "dl2" | fail))
local macro_rules | `(tactic| walk_at "gn") => `(tactic| repeat' (first | walk_at "dl1" | walk_at "use" | walk_at "dl2" | walk_at "br" | fail))
local macro_rules | `(tactic| walk_at "go") => `(tactic| repeat' (first | walk_at "dl1" | walk_at "wif" | walk_at "use" | walk_at "dl2" | walk_at "br" | fail))

section
variable {G : Gx} {C_Ratio C_OutOfBounds : Addr}
theorem ok_digit (T : Txt G C_Ratio C_OutOfBounds) {f : Addr} {fd : FuncData} (F : L2.Fun G.K "_law_digit" "_law_digit" s__law_digit f fd) (b : Binds G.K fd ["pot", "many"] []) : Fnx G 1 f 2 S_digit [] := by
  refine fnx_of F sc__law_digit rfl b .nil rfl (fun cdv A outer s H FF hr tk => ⟨_, (pss_cons (ps_if (PW.pt (pw_and (pt_cm (os_eq hr tk) (pe_ix ix_seq (pe_var (i := 0) rfl (Or.inl rfl) nd_pot.1 nd_pot.2) pe_int (fun _ _ => rfl)) pe_int (nomark _)) (pw_and1 (pt_cm os_lt (pe_ix ix_seq (pe_var (i := 0) rfl (Or.inl rfl) nd_pot.1 nd_pot.2) pe_int (fun _ _ => rfl)) (pe_cb cs_len rfl T.n_len bt_len (pa_cons (pe_ix ix_seq (pe_var (i := 0) rfl (Or.inl rfl) nd_pot.1 nd_pot.2) pe_int (fun _ _ => rfl)) pa_nil)) (nomark _))))) (pss_cons (ps_asg (pe_ix ix_seq (pe_ix ix_seq (pe_var (i := 0) rfl (Or.inl rfl) nd_pot.1 nd_pot.2) pe_int (fun _ _ => rfl)) (pe_ix ix_seq (pe_var (i := 0) rfl (Or.inl rfl) nd_pot.1 nd_pot.2) pe_int (fun _ _ => rfl)) (fun _ _ => rfl)) (pg_sub (pe_var (i := 0) rfl (Or.inl rfl) nd_pot.1 nd_pot.2) pe_int set_list)) (pss_one (ps_asg (pe_bin (os_add hr tk) (pe_ix ix_seq (pe_var (i := 0) rfl (Or.inl rfl) nd_pot.1 nd_pot.2) pe_int (fun _ _ => rfl)) pe_int) (pg_sub (pe_var (i := 0) rfl (Or.inl rfl) nd_pot.1 nd_pot.2) pe_int set_list)))) pss_nil) (pss_cons (ps_set (i := 2) sc__law_digit.nd rfl (Or.inl rfl) (pe_bin os_mod (pe_ct cs_int rfl T.n_int bt_int (pa_cons (pe_ix ix_seq (pe_var (i := 0) rfl (Or.inl rfl) nd_pot.1 nd_pot.2) pe_int (fun _ _ => rfl)) pa_nil)) (pe_var (i := 1) rfl (Or.inl rfl) nd_many.1 nd_many.2))) (pss_cons (ps_asg (pe_bin os_fdiv (pe_ix ix_seq (pe_var (i := 0) rfl (Or.inl rfl) nd_pot.1 nd_pot.2) pe_int (fun _ _ => rfl)) (pe_var (i := 1) rfl (Or.inl rfl) nd_many.1 nd_many.2)) (pg_sub (pe_var (i := 0) rfl (Or.inl rfl) nd_pot.1 nd_pot.2) pe_int set_list)) (pss_one (ps_ret (pe_var (i := 2) rfl (Or.inl rfl) nd_digit.1 nd_digit.2)))))), ?_⟩)
  rintro ds m K E - ⟨p, many, m0, rfl, h0, hb, ⟨cs, i, r, rfl, hi, hrr, hcs⟩, k⟩
  show Ws _ _ _ [some (.ref p), some (.int many), none] _ _
  dsimp only [cx_G, cx_K]
  have fin : ∀ (cs : List Int) (i r : Int), 0 ≤ i → 0 ≤ r → (∀ c ∈ cs, 0 ≤ c) → K (.int (r.fmod many)) ((p, .lst [.lst (cs.map D.int), .int i, .int (r.fdiv many)]) :: m0) := fun cs i r hi hr hc => by
    rw [Int.fmod_eq_emod_of_nonneg _ (by omega), Int.fdiv_eq_ediv_of_nonneg _ (by omega)]
    exact k _ _ (Int.emod_nonneg _ (by omega)) (Int.emod_lt_of_pos _ h0) ⟨cs, i, _, rfl, hi, Int.ediv_nonneg hr (by omega), hc⟩
  have hne : many ≠ 0 := by omega
  have hdv : CDivX r many := hb.divX hne (by decide)
  walk_at "go"
  · obtain ⟨c, hc, hat⟩ := atI_ints hi ‹i < _›
    refine w2_ixL ⟨hat, ?_⟩
    walk_at "go"
    · exact hne
    · exact hb.divX hne (by decide)
    · exact fin _ _ _ (by omega) (hcs _ hc) hcs
  all_goals first | exact hne | exact hdv | exact fin _ _ _ hi hrr hcs
theorem cut_pot {ns : List Int} (h : ns.length ≤ 63) : cutD (ns.map D.int) none (some 63) = ns.map D.int := cut63 (by rw [List.length_map]; exact h)
def dabs : D → D
  | .int i => .int (i.natAbs : Int)
  | d => d
theorem ok_pot (T : Txt G C_Ratio C_OutOfBounds) {f : Addr} {fd : FuncData} (F : L2.Fun G.K "_law_pot" "_law_pot" s__law_pot f fd) (b : L2.Binds G.K fd ["script"] []) : Fnx G 1 f 1 (S_pot G.K) [] := by
  refine fnx_of F sc__law_pot rfl b .nil rfl (fun cdv A outer s H FF hr tk => ⟨_, (pss_one (ps_ret (pe_lst (pa_cons (pe_lc (own := [("cell", 1)]) (g := gName 1) (tt := tYes) rfl sc__law_pot.nd (pi_seq (pe_slice sl_list (pe_var (i := 0) rfl (Or.inl rfl) nd_script.1 nd_script.2) po_none (po_some pe_int))) (blkOk_by (N := N__law_pot) (sc := defScope s__law_pot) (by decide +kernel)) (fun _ _ _ _ _ => pg_name (i := 1) sc__law_pot.nd rfl (Or.inl rfl)) (fun _ _ _ _ _ => pts_nil) (fun _ _ _ _ _ => (pe_cb cs_abs rfl T.n_abs bt_abs (pa_cons (pe_var (i := 1) rfl (Or.inl rfl) nd_cell.1 nd_cell.2) pa_nil)))) (pa_cons pe_int (pa_cons pe_int pa_nil)))))), ?_⟩)
  rintro ds m K E - ⟨d, ns, rfl, sd, hl, k⟩
  show Ws _ _ _ [some d, none] _ _
  dsimp only [cx_G, cx_K]
  refine ws_ret (we_lstM (wa_cons (we_lcm (f := dabs) (we_slS ?_))))
  walk_at "dl"
  refine ⟨ns, sd, wo_none (wo_some ?_)⟩
  walk_at "dl"
  rw [cut_pot hl]
  refine ⟨_, .lst, by rw [List.length_map]; exact Nat.ble_eq_true_of_le (by omega), ?_, ?_⟩
  · intro x hx q K2 hk
    obtain ⟨i, hi, rfl⟩ := List.mem_map.mp hx
    walk_at "dl"
    exact hk
  · walk_at "dl"
    intro p hp
    have e : (ns.map D.int).map dabs = (ns.map fun i => (i.natAbs : Int)).map D.int := by
      rw [List.map_map, List.map_map]; rfl
    refine k p _ hp ⟨_, 0, 0, by rw [e], by omega, by omega, fun c hc => ?_⟩
    obtain ⟨i, _, rfl⟩ := List.mem_map.mp hc
    omega
def S_whole : SpecD := fun ds m K _ => ∃ i, ds = [.int i] ∧ K (.bl true) m
theorem ok_whole (T : Txt G C_Ratio C_OutOfBounds) {f : Addr} {fd : FuncData} (F : L2.Fun G.K "_law_whole" "_law_whole" s__law_whole f fd) (b : L2.Binds G.K fd ["value"] []) : Fnx G 1 f 1 S_whole [] := by
  refine fnx_of F sc__law_whole rfl b .nil rfl (fun cdv A outer s H FF hr tk => ⟨_, (pss_one (ps_ret (pe_and (pe_cb cs_isi rfl T.n_isinstance bt_isinstance (pa_cons (pe_var (i := 0) rfl (Or.inl rfl) nd_value.1 nd_value.2) (pa_cons (pe_bltn (v := .ty "int") rfl T.n_int bt_int rfl) pa_nil))) (pe_one (pe_not (pe_cb cs_isi rfl T.n_isinstance bt_isinstance (pa_cons (pe_var (i := 0) rfl (Or.inl rfl) nd_value.1 nd_value.2) (pa_cons (pe_bltn (v := .ty "bool") rfl T.n_bool bt_bool rfl) pa_nil)))))))), ?_⟩)
  rintro ds m K E - ⟨i, rfl, k⟩
  show Ws _ _ _ [some (.int i)] _ _
  dsimp only [cx_G, cx_K]
  walk_at "go"
  exact k
theorem okH_whole (T : Txt G C_Ratio C_OutOfBounds) {f : Addr} {fd : FuncData} (F : L2.Fun G.K "_law_whole" "_law_whole" s__law_whole f fd) (hm : G.mg "_law_whole" = some (.ref f)) (b : L2.Binds G.K fd ["value"] []) : CalH G 1 "_law_whole" 1 S_whole := by
  refine calH_of F hm sc__law_whole rfl b (fun cdv A outer s H FF p hot hr tk => ⟨_, (pss_one (ps_ret (pe_and (pe_cb cs_isi rfl T.n_isinstance bt_isinstance (pa_cons (pe_var (i := 0) rfl (Or.inl rfl) nd_value.1 nd_value.2) (pa_cons (pe_bltn (v := .ty "int") rfl T.n_int bt_int rfl) pa_nil))) (pe_one (pe_not (pe_cb cs_isi rfl T.n_isinstance bt_isinstance (pa_cons (pe_var (i := 0) rfl (Or.inl rfl) nd_value.1 nd_value.2) (pa_cons (pe_bltn (v := .ty "bool") rfl T.n_bool bt_bool rfl) pa_nil)))))))), ?_⟩)
  rintro ds m K E - ⟨i, rfl, k⟩
  show Ws _ _ _ [some (.int i)] _ _
  dsimp only [cxH_G, cxH_K]
  walk_at "go"
  exact k
def S_init (C : Addr) : SpecD := fun ds m K _ => ∃ x m0 t b, ds = [.ref x, .int t, .int b] ∧ m = (x, .ins C [] []) :: m0 ∧ b ≠ 0 ∧ Bd 8000 b ∧ K .non ((x, .ins C ["top", "bottom"] [.int (rT t b), .int (rB t b)]) :: m0)
theorem ok_init (T : Txt G C_Ratio C_OutOfBounds) {f : Addr} {fd : FuncData} {dvs : List V} (F : FunW G.K "__init__" "Ratio.__init__" s_Ratio___init__ dvs f fd) {ds : List Value} {dd : List D} (b : L2.Binds G.K fd ["self", "top", "bottom"] ds) (d : L2.Vals (dd.map ofD) ds) (cs : dd.all isC = true) : Fnx G 1 f 3 (S_init C_Ratio) dd := by
  refine fnx_ofD F sc_Ratio___init__ rfl b d cs (fun cdv A outer s H FF hr tk => ⟨_, (pss_cons (ps_if (pt_cm (os_eq hr tk) (pe_var (i := 2) rfl (Or.inl rfl) nd_bottom.1 nd_bottom.2) pe_int (nomark _)) (pss_one ps_never) pss_nil) (pss_cons (ps_set (i := 3) sc_Ratio___init__.nd rfl (Or.inl rfl) (pe_cf cs_gcd rfl T.mg_gcd (pa_cons (pe_var (i := 1) rfl (Or.inl rfl) nd_top.1 nd_top.2) (pa_cons (pe_var (i := 2) rfl (Or.inl rfl) nd_bottom.1 nd_bottom.2) pa_nil)))) (pss_cons (ps_if (pt_cm os_lt (pe_var (i := 2) rfl (Or.inl rfl) nd_bottom.1 nd_bottom.2) pe_int (nomark _)) (pss_one (ps_set (i := 3) sc_Ratio___init__.nd rfl (Or.inl rfl) (pe_una (us_neg hr tk) (pe_var (i := 3) rfl (Or.inl rfl) nd_shared.1 nd_shared.2)))) pss_nil) (pss_cons (ps_fld (pe_var (i := 0) rfl (Or.inl rfl) nd_self.1 nd_self.2) (pe_bin os_fdiv (pe_var (i := 1) rfl (Or.inl rfl) nd_top.1 nd_top.2) (pe_var (i := 3) rfl (Or.inl rfl) nd_shared.1 nd_shared.2)) rfl) (pss_one (ps_fld (pe_var (i := 0) rfl (Or.inl rfl) nd_self.1 nd_self.2) (pe_bin os_fdiv (pe_var (i := 2) rfl (Or.inl rfl) nd_bottom.1 nd_bottom.2) (pe_var (i := 3) rfl (Or.inl rfl) nd_shared.1 nd_shared.2)) rfl)))))), ?_⟩)
  rintro ds m K E - ⟨x, m0, t, b, rfl, rfl, hb0, hbb, k⟩
  show Ws _ _ _ [some (.ref x), some (.int t), some (.int b), none] _ _
  dsimp only [cx_G, cx_K]
  have gp := gc_pos (t := t) hb0
  have gb := gc_bd (t := t) hb0 hbb
  have R := T.R
  have gn : gc t b ≠ 0 := by omega
  have fin1 : ¬ b < 0 → t.fdiv (gc t b) = rT t b ∧ b.fdiv (gc t b) = rB t b := fun h => by
    unfold rT rB
    rw [if_neg h, if_neg h, fdiv_pos gp, fdiv_pos gp]
    exact ⟨rfl, rfl⟩
  have fin2 : b < 0 → t.fdiv (-gc t b) = rT t b ∧ b.fdiv (-gc t b) = rB t b := fun h => by
    unfold rT rB
    rw [if_pos h, if_pos h, fdiv_neg' gp (gc_dvd1 t b), fdiv_neg' gp (gc_dvd2 t b)]
    exact ⟨rfl, rfl⟩
  have c1 : ∀ z : Int, CDivX z (-((t.natAbs.gcd b.natAbs : Nat) : Int)) := fun z => gb.neg.divX (by omega) (by decide)
  have c2 : ∀ z : Int, CDivX z ((t.natAbs.gcd b.natAbs : Nat) : Int) := fun z => gb.divX gn (by decide)
  have k1 : b < 0 → K .non ((x, .ins C_Ratio ["top", "bottom"] [.int (t.fdiv (-((t.natAbs.gcd b.natAbs : Nat) : Int))), .int (b.fdiv (-((t.natAbs.gcd b.natAbs : Nat) : Int)))]) :: m0) := fun h => by
    have q := k
    rw [← (fin2 h).1, ← (fin2 h).2] at q
    exact q
  have k2 : ¬ b < 0 → K .non ((x, .ins C_Ratio ["top", "bottom"] [.int (t.fdiv ((t.natAbs.gcd b.natAbs : Nat) : Int)), .int (b.fdiv ((t.natAbs.gcd b.natAbs : Nat) : Int))]) :: m0) := fun h => by
    have q := k
    rw [← (fin1 h).1, ← (fin1 h).2] at q
    exact q
  walk_at "go"
  all_goals first | exact absurd ‹b = 0› hb0 | exact c1 _ | exact c2 _ | exact k1 ‹_› | exact k2 ‹_›
end
end K52
set_option Elab.async false
set_option linter.all false
set_option maxRecDepth 100000
namespace K52
open PySem PySem.Spec L2 DL
open PyProof.Rows hiding St
/-! one step -/
local macro_rules | `(tactic| walk_at "dl1") => `(tactic| first
  | (with_reducible first
    | refine ws_seq ?_ | refine ws_ret ?_ | refine ws_asg ?_ | refine ws_next ?_ | refine ws_drop ?_ | refine ws_par ?_ | refine ws_par3 ?_ | refine ws_fldN ?_
    | refine wt_test ?_ | refine wt_tr ?_ | refine wt_and ?_ | refine wt_or ?_ | refine wt_not ?_
    | refine we_cint ?_ | refine we_cbl ?_ | refine we_cnon ?_ | refine we_cty ?_ | refine we_cref ?_
    | refine we_2 ?_ | refine we_1 ?_ | refine we_op ?_ | refine we_c2 ?_ | refine we_tup ?_ | refine we_andV ?_ | refine we_orV ?_ | refine we_notV ?_ | refine we_3 ?_ | refine we_fldF ?_ | refine we_cl0 ?_ | refine we_clH ?_
    | refine wa_nil ?_ | refine wa_cons ?_ | refine wg_name ?_ | refine wg_subM ?_ | refine wg_tup rfl ?_ | refine wgs_cons ?_ | refine wgs_nil ?_
    | refine w2_add ?_ | refine w2_sub ?_ | refine w2_mul ⟨?_, ?_⟩ | refine w2_fdiv ⟨?_, ?_⟩ | refine w2_mod ⟨?_, ?_⟩ | refine w2_pow ⟨?_, ?_⟩ | refine w2_eqI ?_ | refine w2_neI ?_ | refine w2_eqIH ?_ | refine w2_lt ?_ | refine w2_le ?_ | refine w2_gt ?_ | refine w2_ge ?_ | refine w1_neg ?_ | refine w2_isN ?_ | refine w2_notN ?_
    | refine wc_int ?_ | refine wc_abs ?_ | refine wc_min ?_ | refine wc_gcd ?_
    | refine wc_isiT .int kit_ii ?_ | refine wc_isiT .int kit_ib ?_)
  | ((with_reducible refine we_var (d := ?d) ?hv ?hk); case hv => rfl)
  | ((with_reducible refine w2_ixT (d := ?d) ⟨?hv, ?hk⟩); case hv => rfl)
  | ((with_reducible refine w2_ixL (d := ?d) ⟨?hv, ?hk⟩); case hv => rfl)
  | ((with_reducible refine w2_ixM (d := ?d) .head ⟨?hv, ?hk⟩); case hv => rfl)
  | (with_reducible refine wc_len .lst ?_) | (with_reducible refine wc_len .tup ?_)
  | (with_reducible refine fld_top (by assumption) ?_) | (with_reducible refine fld_bottom (by assumption) ?_)
  | (with_reducible refine setN_top (by assumption) ?_) | (with_reducible refine setN_bottom (by assumption) ?_)
  | fail)
local macro_rules | `(tactic| walk_at "dl2") => `(tactic| first
  | (with_reducible refine ⟨_, rfl, ?_⟩)
  | (with_reducible refine ⟨_, .bl, ?_⟩)
  | ((with_reducible refine ⟨?h, ?_⟩); case h => rfl)
  | (with_reducible refine ⟨_, _, rfl, ?_⟩)
  | (with_reducible refine ⟨_, _, _, rfl, ?_⟩)
  | ((with_reducible refine ⟨_, _, _, ?j, _, rfl, rfl, .head, ?h, .head, ?_⟩); case h => rfl)
  | fail)
local macro_rules | `(tactic| walk_at "br") => `(tactic| ((with_reducible refine ⟨fun hb => ?_, fun hb => ?_⟩) <;> (try simp only [decide_eq_true_eq, decide_eq_false_iff_not, Bool.not_eq_true', Bool.not_eq_false', Bool.and_eq_true, Bool.or_eq_true, reduceCtorEq, List.length_map, Bool.not_true, Bool.not_false, isNon] at hb)))
local macro_rules | `(tactic| walk_at "wif") => `(tactic| (with_reducible refine ws_if ?_))
local macro_rules | `(tactic| walk_at "dl") => `(tactic| repeat (first | walk_at "dl1" | walk_at "wif" | walk_at "dl2" | fail))
local macro_rules | `(tactic| walk_at "gn") => `(tactic| repeat' (first | walk_at "dl1" | walk_at "use" | walk_at "dl2" | walk_at "br" | fail))
local macro_rules | `(tactic| walk_at "go") => `(tactic| repeat' (first | walk_at "dl1" | walk_at "wif" | walk_at "use" | walk_at "dl2" | walk_at "br" | fail))

section
variable {G : Gx} {C_Ratio C_OutOfBounds : Addr}
def S_common : SpecD := fun ds m K _ => ∃ a b, ds = [.int a, .int b] ∧ Bd 9000 a ∧ Bd 9000 b ∧ K (.int (Nat.gcd a.natAbs b.natAbs : Nat)) m
theorem ok_common (T : Txt G C_Ratio C_OutOfBounds) {f : Addr} {fd : FuncData} (F : L2.Fun G.K "_law_common" "_law_common" s__law_common f fd) (b : L2.Binds G.K fd ["one", "two"] []) : Fnx G 1 f 2 S_common [] := by
  refine fnx_of F sc__law_common rfl b .nil rfl (fun cdv A outer s H FF hr tk => ⟨_, (pss_cons (ps_set (i := 0) sc__law_common.nd rfl (Or.inl rfl) (pe_cb cs_abs rfl T.n_abs bt_abs (pa_cons (pe_var (i := 0) rfl (Or.inl rfl) nd_one.1 nd_one.2) pa_nil))) (pss_cons (ps_set (i := 1) sc__law_common.nd rfl (Or.inl rfl) (pe_cb cs_abs rfl T.n_abs bt_abs (pa_cons (pe_var (i := 1) rfl (Or.inl rfl) nd_two.1 nd_two.2) pa_nil))) (pss_cons (ps_for (passes_of rfl) rfl (pi_range1 rfl T.n_range (pa_cons pe_int pa_nil)) (pg_name (i := 2) sc__law_common.nd rfl (Or.inl rfl)) (pss_cons (ps_if (pt_cm (os_eq hr tk) (pe_var (i := 1) rfl (Or.inl rfl) nd_two.1 nd_two.2) pe_int (nomark _)) (pss_one (ps_ret (pe_var (i := 0) rfl (Or.inl rfl) nd_one.1 nd_one.2))) pss_nil) (pss_cons (ps_set (i := 3) sc__law_common.nd rfl (Or.inl rfl) (pe_bin os_mod (pe_ct cs_int rfl T.n_int bt_int (pa_cons (pe_var (i := 0) rfl (Or.inl rfl) nd_one.1 nd_one.2) pa_nil)) (pe_var (i := 1) rfl (Or.inl rfl) nd_two.1 nd_two.2))) (pss_cons (ps_set (i := 0) sc__law_common.nd rfl (Or.inl rfl) (pe_var (i := 1) rfl (Or.inl rfl) nd_two.1 nd_two.2)) (pss_one (ps_set (i := 1) sc__law_common.nd rfl (Or.inl rfl) (pe_var (i := 3) rfl (Or.inl rfl) nd_rest.1 nd_rest.2))))))) (pss_one (ps_ret pe_int))))), ?_⟩)
  rintro ds m K E - ⟨a, b, rfl, ha, hb, k⟩
  show Ws _ _ _ [some (.int a), some (.int b), none, none] _ _
  dsimp only [cx_G, cx_K]
  walk_at "go"
  refine ws_range1 ?_
  walk_at "dl"
  refine ⟨20000, fun k r' m' => m' = m ∧ ∃ (x y : Nat) (p q : Option D), r' = [some (.int x), some (.int y), p, q] ∧ Nat.gcd x y = Nat.gcd a.natAbs b.natAbs ∧ Eu 9000 k x y, rfl, by decide, ?_, ?_, ?_⟩
  · exact ⟨rfl, _, _, _, _, rfl, rfl, .inl ⟨rfl, ha, hb⟩⟩
  · rintro n r' m' hn ⟨rfl, x, y, p, q, rfl, hg, he⟩
    have fin : y = 0 → K (.int (x : Int)) m' := fun h => by
      rw [h, Nat.gcd_zero_right] at hg
      rw [hg]
      exact k
    walk_at "go"
    · exact fin (Int.natCast_eq_zero.mp ‹_›)
    · exact ‹¬ _›
    · have hy : 0 < y := by omega
      have e : ((x : Int).fmod (y : Int)) = ((x % y : Nat) : Int) := by
        rw [Int.fmod_eq_emod_of_nonneg _ (by omega)]
        exact (Int.natCast_emod x y).symm
      rw [e]
      refine ⟨y, x % y, _, _, rfl, ?_, he.step hy⟩
      rw [← hg, Nat.gcd_comm x y, Nat.gcd_rec y x, Nat.gcd_comm]
  · rintro r' m' ⟨rfl, x, y, p, q, rfl, hg, he⟩
    exact (he.early (by decide)).elim
def S_told (C : Addr) : SpecD := fun ds m K _ => ∃ t b, ds = [rat C t b] ∧ 0 < b ∧ Nat.gcd t.natAbs b.natAbs = 1 ∧ Bd 9000 t ∧ Bd 9000 b ∧ K (.tup [.int t, .int b]) m
theorem use_whole {i : Int} {m : Mu} {K : KT} {E : Ex → Mu → Prop} (h : K (.bl true) m) : S_whole [.int i] m K E := ⟨i, rfl, h⟩
theorem use_common {a b : Int} {m : Mu} {K : KT} {E : Ex → Mu → Prop} (ha : Bd 9000 a) (hb : Bd 9000 b) (h : K (.int (Nat.gcd a.natAbs b.natAbs : Nat)) m) : S_common [.int a, .int b] m K E := ⟨a, b, rfl, ha, hb, h⟩
local macro_rules | `(tactic| walk_at "use") => `(tactic| first | (with_reducible refine use_whole ?_) | (with_reducible refine use_common ?_ ?_ ?_) | fail)
theorem ok_told (T : Txt G C_Ratio C_OutOfBounds) (c__law_whole : Cal G 1 "_law_whole" 1 S_whole []) (c__law_common : Cal G 1 "_law_common" 2 S_common []) {f : Addr} {fd : FuncData} (F : L2.Fun G.K "_law_told" "_law_told" s__law_told f fd) (b : L2.Binds G.K fd ["value"] []) : Fnx G 2 f 1 (S_told C_Ratio) [] := by
  refine fnx_of F sc__law_told rfl b .nil rfl (fun cdv A outer s H FF hr tk => ⟨_, (pss_cons (ps_if (pt_not (pt_tr (pe_cb cs_isi rfl T.n_isinstance bt_isinstance (pa_cons (pe_var (i := 0) rfl (Or.inl rfl) nd_value.1 nd_value.2) (pa_cons (pe_glob (v := .ref C_Ratio) rfl T.mg_Ratio rfl) pa_nil))))) (pss_one (ps_ret pe_non)) pss_nil) (pss_cons (ps_set (i := 1) sc__law_told.nd rfl (Or.inl rfl) (pe_fld (pe_var (i := 0) rfl (Or.inl rfl) nd_value.1 nd_value.2) rfl)) (pss_cons (ps_set (i := 2) sc__law_told.nd rfl (Or.inl rfl) (pe_fld (pe_var (i := 0) rfl (Or.inl rfl) nd_value.1 nd_value.2) rfl)) (pss_cons (ps_if (PW.pt (pw_or (pt_not (pt_tr (pe_cl c__law_whole hr (by decide) tk rfl (pa_cons (pe_var (i := 1) rfl (Or.inl rfl) nd_top.1 nd_top.2) pa_nil)))) (pw_or (pt_not (pt_tr (pe_cl c__law_whole hr (by decide) tk rfl (pa_cons (pe_var (i := 2) rfl (Or.inl rfl) nd_bottom.1 nd_bottom.2) pa_nil)))) (pw_or1 (pt_cm os_lt (pe_var (i := 2) rfl (Or.inl rfl) nd_bottom.1 nd_bottom.2) pe_int (nomark _)))))) (pss_one (ps_ret pe_non)) pss_nil) (pss_cons (ps_if (pt_cm (os_ne hr tk) (pe_cl c__law_common hr (by decide) tk rfl (pa_cons (pe_var (i := 1) rfl (Or.inl rfl) nd_top.1 nd_top.2) (pa_cons (pe_var (i := 2) rfl (Or.inl rfl) nd_bottom.1 nd_bottom.2) pa_nil))) pe_int (nomark _)) (pss_one (ps_ret pe_non)) pss_nil) (pss_one (ps_ret (pe_tup (pa_cons (pe_var (i := 1) rfl (Or.inl rfl) nd_top.1 nd_top.2) (pa_cons (pe_var (i := 2) rfl (Or.inl rfl) nd_bottom.1 nd_bottom.2) pa_nil)))))))))), ?_⟩)
  rintro ds m K E - ⟨t, b, rfl, hb, hg, bt, bb, k⟩
  show Ws _ _ _ [some (rat C_Ratio t b), none, none] _ _
  dsimp only [cx_G, cx_K]
  have R := T.R
  have hisi : ∀ {W : WX} {E : ET} {r : Rho} {m : Mu} {K : KT}, K (.bl true) m → Wc W E (cIsi G) [rat C_Ratio t b, .ref C_Ratio] r m K := fun h => wc_isiC (.ins R.ins) T.kRR h
  walk_at "go"
  refine hisi ?_
  walk_at "go"
  · exact absurd ‹b < 1› (by omega)
  · exact bt
  · exact bb
  · rename_i h
    rw [hg] at h
    exact absurd rfl h
  · exact k
def S_same : SpecD := fun ds m K _ => ∃ a b c d, ds = [.tup [.int a, .int b], .tup [.int c, .int d]] ∧ Bd 1000000 a ∧ Bd 1000000 b ∧ Bd 1000000 c ∧ Bd 1000000 d ∧ K (.bl (decide (a * d = c * b))) m
theorem ok_same (T : Txt G C_Ratio C_OutOfBounds) {f : Addr} {fd : FuncData} (F : L2.Fun G.K "_law_same" "_law_same" s__law_same f fd) (b : L2.Binds G.K fd ["told", "pair"] []) : Fnx G 1 f 2 S_same [] := by
  refine fnx_of F sc__law_same rfl b .nil rfl (fun cdv A outer s H FF hr tk => ⟨_, (pss_one (ps_ret (pe_and (pe_cm os_isnot (pe_var (i := 0) rfl (Or.inl rfl) nd_told.1 nd_told.2) pe_non (nomark _)) (pe_one (pe_cm (os_eq hr tk) (pe_bin (os_mul hr tk) (pe_ix ix_seq (pe_var (i := 0) rfl (Or.inl rfl) nd_told.1 nd_told.2) pe_int (fun _ _ => rfl)) (pe_ix ix_seq (pe_var (i := 1) rfl (Or.inl rfl) nd_pair.1 nd_pair.2) pe_int (fun _ _ => rfl))) (pe_bin (os_mul hr tk) (pe_ix ix_seq (pe_var (i := 1) rfl (Or.inl rfl) nd_pair.1 nd_pair.2) pe_int (fun _ _ => rfl)) (pe_ix ix_seq (pe_var (i := 0) rfl (Or.inl rfl) nd_told.1 nd_told.2) pe_int (fun _ _ => rfl))) (nomark _)))))), ?_⟩)
  rintro ds m K E - ⟨a, b, c, d, rfl, ha, hb, hc, hd, k⟩
  show Ws _ _ _ [some (.tup [.int a, .int b]), some (.tup [.int c, .int d])] _ _
  dsimp only [cx_G, cx_K]
  walk_at "go"
  · exact ha.mulX hd (by decide)
  · exact hc.mulX hb (by decide)
  · exact k
def S_power : SpecD := fun ds m K _ => ∃ x n, ds = [.int x, .int n] ∧ 0 ≤ n ∧ n ≤ 1000 ∧ Bd 9000 x ∧ K (.int (x ^ n.toNat)) m
theorem ok_power (T : Txt G C_Ratio C_OutOfBounds) {f : Addr} {fd : FuncData} (F : L2.Fun G.K "_law_power" "_law_power" s__law_power f fd) (b : L2.Binds G.K fd ["number", "many"] []) : Fnx G 1 f 2 S_power [] := by
  refine fnx_of F sc__law_power rfl b .nil rfl (fun cdv A outer s H FF hr tk => ⟨_, (pss_cons (ps_set (i := 2) sc__law_power.nd rfl (Or.inl rfl) pe_int) (pss_cons (ps_for (passes_of rfl) rfl (pi_range1 rfl T.n_range (pa_cons (pe_var (i := 1) rfl (Or.inl rfl) nd_many.1 nd_many.2) pa_nil)) (pg_name (i := 3) sc__law_power.nd rfl (Or.inl rfl)) (pss_one (ps_set (i := 2) sc__law_power.nd rfl (Or.inl rfl) (pe_bin (os_mul hr tk) (pe_var (i := 2) rfl (Or.inl rfl) nd_total.1 nd_total.2) (pe_var (i := 0) rfl (Or.inl rfl) nd_number.1 nd_number.2))))) (pss_one (ps_ret (pe_var (i := 2) rfl (Or.inl rfl) nd_total.1 nd_total.2))))), ?_⟩)
  rintro ds m K E - ⟨x, n, rfl, h0, h1, hx, k⟩
  show Ws _ _ _ [some (.int x), some (.int n), none, none] _ _
  dsimp only [cx_G, cx_K]
  walk_at "go"
  refine ws_range1 ?_
  walk_at "dl"
  refine ⟨n, fun k r' m' => m' = m ∧ ∃ p, r' = [some (.int x), some (.int n), some (.int (x ^ k)), p], rfl, by omega, ?_, ?_, ?_⟩
  · exact ⟨rfl, _, by rw [Int.pow_zero]; rfl⟩
  · rintro j r' m' hj ⟨rfl, p, rfl⟩
    walk_at "go"
    · refine (bd_pow hx j).mulX hx ?_
      have : j * 9000 ≤ 1000 * 9000 := Nat.mul_le_mul_right _ (by omega)
      omega
    · exact ⟨_, by rw [Int.pow_succ]; rfl⟩
  · rintro r' m' ⟨rfl, p, rfl⟩
    walk_at "go"
    exact k
theorem use_power {x n : Int} {m : Mu} {K : KT} {E : Ex → Mu → Prop} (h0 : 0 ≤ n) (h1 : n ≤ 1000) (hx : Bd 9000 x) (h : K (.int (x ^ n.toNat)) m) : S_power [.int x, .int n] m K E := ⟨x, n, rfl, h0, h1, hx, h⟩
theorem use_same {a b c d : Int} {m : Mu} {K : KT} {E : Ex → Mu → Prop} (ha : Bd 1000000 a) (hb : Bd 1000000 b) (hc : Bd 1000000 c) (hd : Bd 1000000 d) (h : K (.bl (decide (a * d = c * b))) m) : S_same [.tup [.int a, .int b], .tup [.int c, .int d]] m K E := ⟨a, b, c, d, rfl, ha, hb, hc, hd, h⟩
theorem use_told {C : Addr} {t b : Int} {m : Mu} {K : KT} {E : Ex → Mu → Prop} (hb : 0 < b) (hg : Nat.gcd t.natAbs b.natAbs = 1) (bt : Bd 9000 t) (bb : Bd 9000 b) (h : K (.tup [.int t, .int b]) m) : S_told C [rat C t b] m K E := ⟨t, b, rfl, hb, hg, bt, bb, h⟩
end
end K52
set_option Elab.async false
set_option linter.all false
set_option maxRecDepth 100000
namespace K52
open PySem PySem.Spec L2 DL
open PyProof.Rows hiding St
/-! one step -/
local macro_rules | `(tactic| walk_at "dl1") => `(tactic| first
  | (with_reducible first
    | refine ws_seq ?_ | refine ws_ret ?_ | refine ws_asg ?_ | refine ws_next ?_ | refine ws_drop ?_ | refine ws_par ?_ | refine ws_par3 ?_ | refine ws_fldN ?_
    | refine wt_test ?_ | refine wt_tr ?_ | refine wt_and ?_ | refine wt_or ?_ | refine wt_not ?_
    | refine we_cint ?_ | refine we_cbl ?_ | refine we_cnon ?_ | refine we_cty ?_ | refine we_cref ?_
    | refine we_2 ?_ | refine we_1 ?_ | refine we_op ?_ | refine we_c2 ?_ | refine we_tup ?_ | refine we_andV ?_ | refine we_orV ?_ | refine we_notV ?_ | refine we_3 ?_ | refine we_fldF ?_ | refine we_cl0 ?_ | refine we_clH ?_
    | refine wa_nil ?_ | refine wa_cons ?_ | refine wg_name ?_ | refine wg_subM ?_ | refine wg_tup rfl ?_ | refine wgs_cons ?_ | refine wgs_nil ?_
    | refine w2_add ?_ | refine w2_sub ?_ | refine w2_mul ⟨?_, ?_⟩ | refine w2_fdiv ⟨?_, ?_⟩ | refine w2_mod ⟨?_, ?_⟩ | refine w2_pow ⟨?_, ?_⟩ | refine w2_eqI ?_ | refine w2_neI ?_ | refine w2_eqIH ?_ | refine w2_lt ?_ | refine w2_le ?_ | refine w2_gt ?_ | refine w2_ge ?_ | refine w1_neg ?_ | refine w2_isN ?_ | refine w2_notN ?_
    | refine wc_int ?_ | refine wc_abs ?_ | refine wc_min ?_ | refine wc_gcd ?_
    | refine wc_isiT .int kit_ii ?_ | refine wc_isiT .int kit_ib ?_)
  | ((with_reducible refine we_var (d := ?d) ?hv ?hk); case hv => rfl)
  | ((with_reducible refine w2_ixT (d := ?d) ⟨?hv, ?hk⟩); case hv => rfl)
  | ((with_reducible refine w2_ixL (d := ?d) ⟨?hv, ?hk⟩); case hv => rfl)
  | ((with_reducible refine w2_ixM (d := ?d) .head ⟨?hv, ?hk⟩); case hv => rfl)
  | (with_reducible refine wc_len .lst ?_) | (with_reducible refine wc_len .tup ?_)
  | (with_reducible refine fld_top (by assumption) ?_) | (with_reducible refine fld_bottom (by assumption) ?_)
  | (with_reducible refine setN_top (by assumption) ?_) | (with_reducible refine setN_bottom (by assumption) ?_)
  | fail)
local macro_rules | `(tactic| walk_at "dl2") => `(tactic| first
  | (with_reducible refine ⟨_, rfl, ?_⟩)
  | (with_reducible refine ⟨_, .bl, ?_⟩)
  | ((with_reducible refine ⟨?h, ?_⟩); case h => rfl)
  | (with_reducible refine ⟨_, _, rfl, ?_⟩)
  | (with_reducible refine ⟨_, _, _, rfl, ?_⟩)
  | ((with_reducible refine ⟨_, _, _, ?j, _, rfl, rfl, .head, ?h, .head, ?_⟩); case h => rfl)
  | fail)
local macro_rules | `(tactic| walk_at "br") => `(tactic| ((with_reducible refine ⟨fun hb => ?_, fun hb => ?_⟩) <;> (try simp only [decide_eq_true_eq, decide_eq_false_iff_not, Bool.not_eq_true', Bool.not_eq_false', Bool.and_eq_true, Bool.or_eq_true, reduceCtorEq, List.length_map, Bool.not_true, Bool.not_false, isNon] at hb)))
local macro_rules | `(tactic| walk_at "wif") => `(tactic| (with_reducible refine ws_if ?_))
local macro_rules | `(tactic| walk_at "dl") => `(tactic| repeat (first | walk_at "dl1" | walk_at "wif" | walk_at "dl2" | fail))
local macro_rules | `(tactic| walk_at "gn") => `(tactic| repeat' (first | walk_at "dl1" | walk_at "use" | walk_at "dl2" | walk_at "br" | fail))
local macro_rules | `(tactic| walk_at "go") => `(tactic| repeat' (first | walk_at "dl1" | walk_at "wif" | walk_at "use" | walk_at "dl2" | walk_at "br" | fail))

section
variable {G : Gx} {C_Ratio C_OutOfBounds : Addr}

theorem use_whole' {i : Int} {m : Mu} {K : KT} {E : Ex → Mu → Prop} (h : K (.bl true) m) : S_whole [.int i] m K E := ⟨i, rfl, h⟩
theorem use_sameT {a b c d : Int} {m : Mu} {K : KT} {E : Ex → Mu → Prop} (ha : Bd 1000000 a) (hb : Bd 1000000 b) (hc : Bd 1000000 c) (hd : Bd 1000000 d) (e : a * d = c * b) (h : K (.bl true) m) : S_same [.tup [.int a, .int b], .tup [.int c, .int d]] m K E :=
  use_same ha hb hc hd (by rw [decide_eq_true e]; exact h)
structure RatA (q : Int) (K : Prop) : Prop where
  nz : q ≠ 0
  bd : Bd 8000 q
  k : K
theorem we_ratio {W : WX} {E : ET} {t : TA} {r : Rho} {m : Mu} {K : KT} {C : Addr} (h : Wa W E t r m fun ds m1 => ∃ p q, ds = [.int p, .int q] ∧ RatA q (K (rat C (rT p q) (rB p q)) m1)) : We W E (tMk C 3 (S_init C) [] W t) r m K :=
  we_mk0 (h.imp fun ds m1 ⟨p, q, e, h0, hb, k⟩ => by
    subst e
    exact ⟨rfl, fun x _ => ⟨x, m1, p, q, rfl, rfl, h0, hb, _, _, rfl, rfl, k⟩⟩)
/-- a fraction in lowest terms, of a size -/
structure Lo (a : Nat) (t b : Int) : Prop where
  pos : 0 < b
  gcd : Nat.gcd t.natAbs b.natAbs = 1
  bt : Bd a t
  bb : Bd a b
theorem lo_rat {a : Nat} {t b : Int} (h0 : b ≠ 0) (ht : Bd a t) (hb : Bd a b) : Lo a (rT t b) (rB t b) := by
  obtain ⟨g, _, _, _, hp⟩ := rat_eqs (t := t) h0
  exact ⟨hp, rat_gcd h0, rat_bd h0 ht, rat_bdB h0 hb⟩
def S_own : SpecD := fun ds m K _ => ∃ p q n a, ds = [.tup [.int p, .int q], .int (n : Nat)] ∧ Bd a p ∧ Bd a q ∧ n ≤ 101 ∧ a ≤ 3500 ∧ K (.tup [.tup [.int (sq p p q n), .int (q ^ n)], .tup [.int (sq (2 * p) p q n), .int (q ^ n)]]) m
abbrev sqL (x p q : Int) (n : Nat) : List D := (List.range n).map fun i => .int (sq x p q i)
local macro_rules | `(tactic| walk_at "use") => `(tactic| first | (with_reducible refine use_whole ?_) | (with_reducible refine use_common ?_ ?_ ?_) | (with_reducible refine use_power ?_ ?_ ?_ ?_) | (with_reducible refine use_told ?_ ?_ ?_ ?_ ?_) | (with_reducible refine we_ratio ?_) | (with_reducible refine ws_rs ?_) | fail)
theorem ok_own (T : Txt G C_Ratio C_OutOfBounds) (c__law_power : Cal G 1 "_law_power" 2 S_power []) {f : Addr} {fd : FuncData} (F : L2.Fun G.K "_law_own" "_law_own" s__law_own f fd) (b : L2.Binds G.K fd ["pair", "many"] []) : Fnx G 2 f 2 S_own [] := by
  refine fnx_of F sc__law_own rfl b .nil rfl (fun cdv A outer s H FF hr tk => ⟨_, (pss_cons (ps_asg (pe_var (i := 0) rfl (Or.inl rfl) nd_pair.1 nd_pair.2) (pg_tup rfl (pgs_cons (pg_name (i := 2) sc__law_own.nd rfl (Or.inl rfl)) (pgs_cons (pg_name (i := 3) sc__law_own.nd rfl (Or.inl rfl)) pgs_nil)))) (pss_cons (ps_set (i := 4) sc__law_own.nd rfl (Or.inl rfl) (pe_lst (pa_cons pe_int (pa_cons (pe_var (i := 2) rfl (Or.inl rfl) nd_top.1 nd_top.2) pa_nil)))) (pss_cons (ps_set (i := 5) sc__law_own.nd rfl (Or.inl rfl) (pe_lst (pa_cons pe_int (pa_cons (pe_bin (os_mul hr tk) pe_int (pe_var (i := 2) rfl (Or.inl rfl) nd_top.1 nd_top.2)) pa_nil)))) (pss_cons (ps_for (passes_of rfl) rfl (pi_range1 rfl T.n_range (pa_cons (pe_var (i := 1) rfl (Or.inl rfl) nd_many.1 nd_many.2) pa_nil)) (pg_name (i := 6) sc__law_own.nd rfl (Or.inl rfl)) (pss_cons (ps_expr (pe_bm PySem.F.plainAttrs_list PySem.F.slot_list_append PySem.F.type_list_append mt_append (pe_var (i := 4) rfl (Or.inl rfl) nd_first.1 nd_first.2) (pa_cons (pe_bin (os_sub hr tk) (pe_bin (os_mul hr tk) (pe_bin (os_mul hr tk) pe_int (pe_var (i := 2) rfl (Or.inl rfl) nd_top.1 nd_top.2)) (pe_ix ix_seq (pe_var (i := 4) rfl (Or.inl rfl) nd_first.1 nd_first.2) (pe_una (us_neg hr tk) pe_int) (fun _ _ => rfl))) (pe_bin (os_mul hr tk) (pe_bin (os_mul hr tk) (pe_var (i := 3) rfl (Or.inl rfl) nd_bottom.1 nd_bottom.2) (pe_var (i := 3) rfl (Or.inl rfl) nd_bottom.1 nd_bottom.2)) (pe_ix ix_seq (pe_var (i := 4) rfl (Or.inl rfl) nd_first.1 nd_first.2) (pe_una (us_neg hr tk) pe_int) (fun _ _ => rfl)))) pa_nil))) (pss_one (ps_expr (pe_bm PySem.F.plainAttrs_list PySem.F.slot_list_append PySem.F.type_list_append mt_append (pe_var (i := 5) rfl (Or.inl rfl) nd_second.1 nd_second.2) (pa_cons (pe_bin (os_sub hr tk) (pe_bin (os_mul hr tk) (pe_bin (os_mul hr tk) pe_int (pe_var (i := 2) rfl (Or.inl rfl) nd_top.1 nd_top.2)) (pe_ix ix_seq (pe_var (i := 5) rfl (Or.inl rfl) nd_second.1 nd_second.2) (pe_una (us_neg hr tk) pe_int) (fun _ _ => rfl))) (pe_bin (os_mul hr tk) (pe_bin (os_mul hr tk) (pe_var (i := 3) rfl (Or.inl rfl) nd_bottom.1 nd_bottom.2) (pe_var (i := 3) rfl (Or.inl rfl) nd_bottom.1 nd_bottom.2)) (pe_ix ix_seq (pe_var (i := 5) rfl (Or.inl rfl) nd_second.1 nd_second.2) (pe_una (us_neg hr tk) pe_int) (fun _ _ => rfl)))) pa_nil)))))) (pss_cons (ps_set (i := 7) sc__law_own.nd rfl (Or.inl rfl) (pe_cl c__law_power hr (by decide) tk rfl (pa_cons (pe_var (i := 3) rfl (Or.inl rfl) nd_bottom.1 nd_bottom.2) (pa_cons (pe_var (i := 1) rfl (Or.inl rfl) nd_many.1 nd_many.2) pa_nil)))) (pss_one (ps_ret (pe_tup (pa_cons (pe_tup (pa_cons (pe_ix ix_seq (pe_var (i := 4) rfl (Or.inl rfl) nd_first.1 nd_first.2) (pe_var (i := 1) rfl (Or.inl rfl) nd_many.1 nd_many.2) (fun _ _ => rfl)) (pa_cons (pe_var (i := 7) rfl (Or.inl rfl) nd_over.1 nd_over.2) pa_nil))) (pa_cons (pe_tup (pa_cons (pe_ix ix_seq (pe_var (i := 5) rfl (Or.inl rfl) nd_second.1 nd_second.2) (pe_var (i := 1) rfl (Or.inl rfl) nd_many.1 nd_many.2) (fun _ _ => rfl)) (pa_cons (pe_var (i := 7) rfl (Or.inl rfl) nd_over.1 nd_over.2) pa_nil))) pa_nil)))))))))), ?_⟩)
  rintro ds m K E - ⟨p, q, n, a, rfl, hp, hq, hn, ha, k⟩
  show Ws _ _ _ [some (.tup [.int p, .int q]), some (.int n), none, none, none, none, none, none] _ _
  dsimp only [cx_G, cx_K]
  refine Ws.shed ?_
  have b2 : Bd 2 2 := bd_lit (by decide)
  walk_at "go"
  refine we_lstM ?_
  walk_at "go"
  intro p1 hp1
  walk_at "go"
  refine we_lstM ?_
  walk_at "go"
  · exact b2.mulX hp (by omega)
  intro p2 hp2
  walk_at "go"
  refine ws_range1 ?_
  walk_at "dl"
  refine ⟨n, fun k r' m' => m' = (p2, .lst (sqL (2 * p) p q (k + 2))) :: (p1, .lst (sqL p p q (k + 2))) :: m ∧ ∃ kk, r' = [some (.tup [.int p, .int q]), some (.int n), some (.int p), some (.int q), some (.ref p1), some (.ref p2), kk, none], rfl, by omega, ?_, ?_, ?_⟩
  · exact ⟨rfl, _, rfl⟩
  · rintro j r' m' hj ⟨rfl, kk, rfl⟩
    have hj' : j < 101 := by omega
    have lb : ∀ i ≤ j + 1, i * (a + 2) ≤ 102 * 3502 := fun i hi => Nat.mul_le_mul (by omega) (by omega)
    have B1 : ∀ i ≤ j + 1, Bd 450000 (sq p p q i) := fun i hi => (sq_bd (hp.mono (Nat.le_succ a)) hp hq i).1.mono (by have := lb i hi; omega)
    have B2 : ∀ i ≤ j + 1, Bd 450000 (sq (2 * p) p q i) := fun i hi => (sq_bd (bd_two hp) hp hq i).1.mono (by have := lb i hi; omega)
    have M1 : ∀ z, Bd 450000 z → CMulX (2 * p) z := fun z hz => (b2.mul hp).mulX hz (by omega)
    have M2 : ∀ z, Bd 450000 z → CMulX (q * q) z := fun z hz => (hq.mul hq).mulX hz (by omega)
    have M3 : CMulX 2 p := b2.mulX hp (by omega)
    have M4 : CMulX q q := hq.mulX hq (by omega)
    walk_at "go"
    refine we_app ?_
    walk_at "dl"
    refine ⟨_, _, rfl, .tail .head, ?_⟩
    walk_at "go"
    · exact M3
    · refine w2_ixM (.tail .head) ⟨range_m1 (j + 1), ?_⟩
      walk_at "go"
      · exact M1 _ (B1 _ (Nat.le_refl _))
      · exact M4
      · refine w2_ixM (.tail .head) ⟨range_m2 j, ?_⟩
        walk_at "go"
        · exact M2 _ (B1 _ (by omega))
        · refine ⟨_, _, _, rfl, .tail .head, by simp only [List.length_map, List.length_range]; omega, .tail .head, ?_⟩
          walk_at "go"
          refine we_app ?_
          walk_at "dl"
          refine ⟨_, _, rfl, .head, ?_⟩
          walk_at "go"
          · exact M3
          · refine w2_ixM .head ⟨range_m1 (j + 1), ?_⟩
            walk_at "go"
            · exact M1 _ (B2 _ (Nat.le_refl _))
            · exact M4
            · refine w2_ixM .head ⟨range_m2 j, ?_⟩
              walk_at "go"
              · exact M2 _ (B2 _ (by omega))
              · refine ⟨_, _, _, rfl, .head, by simp only [List.length_map, List.length_range]; omega, .head, ?_⟩
                refine ⟨?_, _, rfl⟩
                have e1 := range_snoc (f := fun i => D.int (sq p p q i)) (j + 2)
                have e2 := range_snoc (f := fun i => D.int (sq (2 * p) p q i)) (j + 2)
                show (p2, MO.lst _) :: (p1, MO.lst _) :: m = (p2, MO.lst _) :: (p1, MO.lst _) :: m
                unfold sqL
                rw [← e1, ← e2]
                rfl
  · rintro r' m' ⟨rfl, kk, rfl⟩
    have hat : ∀ x : Int, atI (sqL x p q (n + 2)) (n : Int) = some (.int (sq x p q n)) := fun x => atI_nat (range_at (by omega))
    walk_at "go"
    · omega
    · omega
    · exact hq.mono (by omega)
    · walk_at "go"
      refine w2_ixM (.tail .head) ⟨hat p, ?_⟩
      walk_at "go"
      refine w2_ixM .head ⟨hat (2 * p), ?_⟩
      walk_at "go"
      exact ⟨2, k⟩
end
end K52
set_option Elab.async false
set_option linter.all false
set_option maxRecDepth 100000
namespace K52
open PySem PySem.Spec L2 DL
open PyProof.Rows hiding St
/-! one step -/
local macro_rules | `(tactic| walk_at "dl1") => `(tactic| first
  | (with_reducible first
    | refine ws_seq ?_ | refine ws_ret ?_ | refine ws_asg ?_ | refine ws_next ?_ | refine ws_drop ?_ | refine ws_par ?_ | refine ws_par3 ?_ | refine ws_fldN ?_
    | refine wt_test ?_ | refine wt_tr ?_ | refine wt_and ?_ | refine wt_or ?_ | refine wt_not ?_
    | refine we_cint ?_ | refine we_cbl ?_ | refine we_cnon ?_ | refine we_cty ?_ | refine we_cref ?_
    | refine we_2 ?_ | refine we_1 ?_ | refine we_op ?_ | refine we_c2 ?_ | refine we_tup ?_ | refine we_andV ?_ | refine we_orV ?_ | refine we_notV ?_ | refine we_3 ?_ | refine we_fldF ?_ | refine we_cl0 ?_ | refine we_clH ?_
    | refine wa_nil ?_ | refine wa_cons ?_ | refine wg_name ?_ | refine wg_subM ?_ | refine wg_tup rfl ?_ | refine wgs_cons ?_ | refine wgs_nil ?_
    | refine w2_add ?_ | refine w2_sub ?_ | refine w2_mul ⟨?_, ?_⟩ | refine w2_fdiv ⟨?_, ?_⟩ | refine w2_mod ⟨?_, ?_⟩ | refine w2_pow ⟨?_, ?_⟩ | refine w2_eqI ?_ | refine w2_neI ?_ | refine w2_eqIH ?_ | refine w2_lt ?_ | refine w2_le ?_ | refine w2_gt ?_ | refine w2_ge ?_ | refine w1_neg ?_ | refine w2_isN ?_ | refine w2_notN ?_
    | refine wc_int ?_ | refine wc_abs ?_ | refine wc_min ?_ | refine wc_gcd ?_
    | refine wc_isiT .int kit_ii ?_ | refine wc_isiT .int kit_ib ?_)
  | ((with_reducible refine we_var (d := ?d) ?hv ?hk); case hv => rfl)
  | ((with_reducible refine w2_ixT (d := ?d) ⟨?hv, ?hk⟩); case hv => rfl)
  | ((with_reducible refine w2_ixL (d := ?d) ⟨?hv, ?hk⟩); case hv => rfl)
  | ((with_reducible refine w2_ixM (d := ?d) .head ⟨?hv, ?hk⟩); case hv => rfl)
  | (with_reducible refine wc_len .lst ?_) | (with_reducible refine wc_len .tup ?_)
  | (with_reducible refine fld_top (by assumption) ?_) | (with_reducible refine fld_bottom (by assumption) ?_)
  | (with_reducible refine setN_top (by assumption) ?_) | (with_reducible refine setN_bottom (by assumption) ?_)
  | fail)
local macro_rules | `(tactic| walk_at "dl2") => `(tactic| first
  | (with_reducible refine ⟨_, rfl, ?_⟩)
  | (with_reducible refine ⟨_, .bl, ?_⟩)
  | ((with_reducible refine ⟨?h, ?_⟩); case h => rfl)
  | (with_reducible refine ⟨_, _, rfl, ?_⟩)
  | (with_reducible refine ⟨_, _, _, rfl, ?_⟩)
  | ((with_reducible refine ⟨_, _, _, ?j, _, rfl, rfl, .head, ?h, .head, ?_⟩); case h => rfl)
  | fail)
local macro_rules | `(tactic| walk_at "br") => `(tactic| ((with_reducible refine ⟨fun hb => ?_, fun hb => ?_⟩) <;> (try simp only [decide_eq_true_eq, decide_eq_false_iff_not, Bool.not_eq_true', Bool.not_eq_false', Bool.and_eq_true, Bool.or_eq_true, reduceCtorEq, List.length_map, Bool.not_true, Bool.not_false, isNon] at hb)))
local macro_rules | `(tactic| walk_at "wif") => `(tactic| (with_reducible refine ws_if ?_))
local macro_rules | `(tactic| walk_at "dl") => `(tactic| repeat (first | walk_at "dl1" | walk_at "wif" | walk_at "dl2" | fail))
local macro_rules | `(tactic| walk_at "gn") => `(tactic| repeat' (first | walk_at "dl1" | walk_at "use" | walk_at "dl2" | walk_at "br" | fail))
local macro_rules | `(tactic| walk_at "go") => `(tactic| repeat' (first | walk_at "dl1" | walk_at "wif" | walk_at "use" | walk_at "dl2" | walk_at "br" | fail))

section
variable {G : Gx} {C_Ratio C_OutOfBounds : Addr}
local macro_rules | `(tactic| walk_at "use") => `(tactic| first | (with_reducible refine use_whole ?_) | (with_reducible refine use_common ?_ ?_ ?_) | (with_reducible refine use_power ?_ ?_ ?_ ?_) | (with_reducible refine use_told ?_ ?_ ?_ ?_ ?_) | (with_reducible refine use_sameT ?_ ?_ ?_ ?_ ?_ ?_) | (with_reducible refine we_ratio ?_) | (with_reducible refine RatA.mk ?_ ?_ ?_) | (with_reducible refine ws_rs ?_) | fail)


/-- the sizes that a number of rounds n asks -/
def Szn (a n : Nat) : Prop := (a + 2) * (n + 2) ≤ 7000
theorem Szn.sq {a n : Nat} {x p q : Int} (h : Szn a n) (hx : Bd (a + 1) x) (hp : Bd a p) (hq : Bd a q) {k : Nat} (hk : k ≤ n + 1) : Bd 7000 (sq x p q k) :=
  (sq_bd hx hp hq k).1.mono (by
    have : k * (a + 2) ≤ (n + 1) * (a + 2) := Nat.mul_le_mul_right _ hk
    have e : (a + 2) * (n + 2) = (n + 1) * (a + 2) + (a + 2) := by rw [Nat.mul_comm, Nat.succ_mul]
    unfold Szn at h
    omega)
theorem Szn.pow {a n : Nat} {q : Int} (h : Szn a n) (hq : Bd a q) {k : Nat} (hk : k ≤ n + 1) : Bd 7000 (q ^ k) :=
  (bd_pow hq k).mono (by
    have : k * a ≤ (n + 1) * a := Nat.mul_le_mul_right _ hk
    have e : (a + 2) * (n + 2) = (n + 1) * a + a + 2 * (n + 2) := by
      rw [Nat.add_mul, Nat.mul_comm a, Nat.add_mul, Nat.add_mul]
      omega
    unfold Szn at h
    omega)
theorem Szn.a {a n : Nat} (h : Szn a n) : a ≤ 3500 := by
  have : (a + 2) * 2 ≤ (a + 2) * (n + 2) := Nat.mul_le_mul_left _ (by omega)
  unfold Szn at h
  omega
def S_deg (C : Addr) : SpecD := fun ds m K _ => ∃ P Q x n a, ds = [rat C P Q, .int x, .int (n : Nat)] ∧ 0 < Q ∧ Bd a P ∧ Bd a Q ∧ Bd (a + 1) x ∧ Szn a n ∧ n ≤ 100 ∧ K (rat C (rT (sq x P Q n) (Q ^ n)) (rB (sq x P Q n) (Q ^ n))) m
theorem ok_deg (T : Txt G C_Ratio C_OutOfBounds) (k_Ratio : Mak G 1 "Ratio" C_Ratio 3 (S_init C_Ratio) []) {f : Addr} {fd : FuncData} (F : L2.Fun G.K "_of_degree" "_of_degree" s__of_degree f fd) (b : L2.Binds G.K fd ["value", "top", "many"] []) : Fnx G 3 f 3 (S_deg C_Ratio) [] := by
  refine fnx_of F sc__of_degree rfl b .nil rfl (fun cdv A outer s H FF hr tk => ⟨_, (pss_cons (ps_set (i := 3) sc__of_degree.nd rfl (Or.inl rfl) (pe_bin (os_mul hr tk) pe_int (pe_fld (pe_var (i := 0) rfl (Or.inl rfl) nd_value.1 nd_value.2) rfl))) (pss_cons (ps_set (i := 4) sc__of_degree.nd rfl (Or.inl rfl) (pe_bin (os_mul hr tk) (pe_fld (pe_var (i := 0) rfl (Or.inl rfl) nd_value.1 nd_value.2) rfl) (pe_fld (pe_var (i := 0) rfl (Or.inl rfl) nd_value.1 nd_value.2) rfl))) (pss_cons (ps_par3 (i := 5) (j := 6) (l := 7) rfl sc__of_degree.nd rfl rfl rfl (by decide) (by decide) (by decide) rfl rfl rfl (pa_cons pe_int (pa_cons (pe_var (i := 1) rfl (Or.inl rfl) nd_top.1 nd_top.2) (pa_cons pe_int pa_nil))) (by rfl)) (pss_cons (ps_for (passes_of rfl) rfl (pi_range1 rfl T.n_range (pa_cons (pe_var (i := 2) rfl (Or.inl rfl) nd_many.1 nd_many.2) pa_nil)) (pg_name (i := 8) sc__of_degree.nd rfl (Or.inl rfl)) (pss_cons (ps_par (i := 5) (j := 6) rfl sc__of_degree.nd rfl rfl (by decide) rfl rfl (pa_cons (pe_var (i := 6) rfl (Or.inl rfl) nd_after.1 nd_after.2) (pa_cons (pe_bin (os_sub hr tk) (pe_bin (os_mul hr tk) (pe_var (i := 3) rfl (Or.inl rfl) nd_double.1 nd_double.2) (pe_var (i := 6) rfl (Or.inl rfl) nd_after.1 nd_after.2)) (pe_bin (os_mul hr tk) (pe_var (i := 4) rfl (Or.inl rfl) nd_squared.1 nd_squared.2) (pe_var (i := 5) rfl (Or.inl rfl) nd_current.1 nd_current.2))) pa_nil)) (by rfl)) (pss_one (ps_set (i := 7) sc__of_degree.nd rfl (Or.inl rfl) (pe_bin (os_mul hr tk) (pe_var (i := 7) rfl (Or.inl rfl) nd_bottom.1 nd_bottom.2) (pe_fld (pe_var (i := 0) rfl (Or.inl rfl) nd_value.1 nd_value.2) rfl)))))) (pss_one (ps_ret (pe_mak k_Ratio hr (by decide) tk rfl (pa_cons (pe_var (i := 5) rfl (Or.inl rfl) nd_current.1 nd_current.2) (pa_cons (pe_var (i := 7) rfl (Or.inl rfl) nd_bottom.1 nd_bottom.2) pa_nil))))))))), ?_⟩)
  rintro ds m K E - ⟨P, Q, x, n, a, rfl, hQ, bP, bQ, bx, sz, hn, k⟩
  show Ws _ _ _ [some (rat C_Ratio P Q), some (.int x), some (.int n), none, none, none, none, none, none] _ _
  dsimp only [cx_G, cx_K]
  have R := T.R
  have b2 : Bd 2 2 := bd_lit (by decide)
  have ha := sz.a
  walk_at "go"
  · exact b2.mulX bP (by omega)
  · exact bQ.mulX bQ (by omega)
  refine ws_range1 ?_
  walk_at "dl"
  refine ⟨n, fun k r' m' => m' = m ∧ ∃ kk, r' = [some (rat C_Ratio P Q), some (.int x), some (.int n), some (.int (2 * P)), some (.int (Q * Q)), some (.int (sq x P Q k)), some (.int (sq x P Q (k + 1))), some (.int (Q ^ k)), kk], rfl, by omega, ?_, ?_, ?_⟩
  · exact ⟨rfl, _, by rw [Int.pow_zero]; rfl⟩
  · rintro j r' m' hj ⟨rfl, kk, rfl⟩
    have s1 := sz.sq bx bP bQ (k := j) (by omega)
    have s2 := sz.sq bx bP bQ (k := j + 1) (by omega)
    have s3 := sz.pow bQ (k := j) (by omega)
    walk_at "go"
    · exact (b2.mul bP).mulX s2 (by omega)
    · exact (bQ.mul bQ).mulX s1 (by omega)
    · exact s3.mulX bQ (by omega)
    · exact ⟨_, by rw [Int.pow_succ]; rfl⟩
  · rintro r' m' ⟨rfl, kk, rfl⟩
    have hne : Q ^ n ≠ 0 := Int.pow_ne_zero (by omega)
    walk_at "go"
    · exact hne
    · exact (sz.pow bQ (k := n) (by omega)).mono (by decide)
    · exact k
theorem use_deg {C : Addr} {P Q x : Int} {n a : Nat} {m : Mu} {K : KT} {E : Ex → Mu → Prop} (hQ : 0 < Q) (bP : Bd a P) (bQ : Bd a Q) (bx : Bd (a + 1) x) (sz : Szn a n) (hn : n ≤ 100) (h : K (rat C (rT (sq x P Q n) (Q ^ n)) (rB (sq x P Q n) (Q ^ n))) m) : S_deg C [rat C P Q, .int x, .int (n : Nat)] m K E :=
  ⟨P, Q, x, n, a, rfl, hQ, bP, bQ, bx, sz, hn, h⟩
/-- the kinds: f the first number's multiple of the top -/
def S_kind (C CE : Addr) (c : Int) : SpecD := fun ds m K E => ∃ P Q n, ds = [rat C P Q, .int n] ∧ 0 < Q ∧
  ((∃ (k a : Nat), n = k ∧ k ≤ 100 ∧ Bd a P ∧ Bd a Q ∧ Szn a k ∧ K (rat C (rT (sq (c * P) P Q k) (Q ^ k)) (rB (sq (c * P) P Q k) (Q ^ k))) m) ∨ ((n < 0 ∨ 100 < n) ∧ E ⟨CE, ["value"], [.int n]⟩ m))
theorem ok_first (T : Txt G C_Ratio C_OutOfBounds) (x_OutOfBounds : Exc G "OutOfBounds" C_OutOfBounds ["value"]) (c__of_degree : Cal G 3 "_of_degree" 3 (S_deg C_Ratio) []) {f : Addr} {fd : FuncData} (F : L2.Fun G.K "first_kind" "first_kind" s_first_kind f fd) (b : L2.Binds G.K fd ["value", "many"] []) : Fnx G 4 f 2 (S_kind C_Ratio C_OutOfBounds 1) [] := by
  refine fnx_of F sc_first_kind rfl b .nil rfl (fun cdv A outer s H FF hr tk => ⟨_, (pss_cons (ps_if (pt_not (pt_ch os_le os_le pe_int (pe_var (i := 1) rfl (Or.inl rfl) nd_many.1 nd_many.2) (pe_gcD rfl T.gc_MOST_ROUNDS))) (pss_one (ps_rs x_OutOfBounds rfl hr (by decide) tk rfl (pa_cons (pe_var (i := 1) rfl (Or.inl rfl) nd_many.1 nd_many.2) pa_nil))) pss_nil) (pss_one (ps_ret (pe_cl c__of_degree hr (by decide) tk rfl (pa_cons (pe_var (i := 0) rfl (Or.inl rfl) nd_value.1 nd_value.2) (pa_cons (pe_fld (pe_var (i := 0) rfl (Or.inl rfl) nd_value.1 nd_value.2) rfl) (pa_cons (pe_var (i := 1) rfl (Or.inl rfl) nd_many.1 nd_many.2) pa_nil))))))), ?_⟩)
  rintro ds m K E - ⟨P, Q, n, rfl, hQ, h⟩
  show Ws _ _ _ [some (rat C_Ratio P Q), some (.int n)] _ _
  dsimp only [cx_G, cx_K]
  have R := T.R
  have e1 : (1 : Int) * P = P := Int.one_mul P
  have out : (n < 0 ∨ 100 < n) → E ⟨C_OutOfBounds, ["value"], [.int n]⟩ m := fun o => by
    rcases h with ⟨k, a, rfl, hk, _⟩ | ⟨_, q⟩
    · omega
    · exact q
  walk_at "go"
  · exact out (.inr (by omega))
  · rcases h with ⟨k, a, rfl, hk, bP, bQ, sz, q⟩ | ⟨o, _⟩
    · rw [e1] at q
      exact use_deg hQ bP bQ (bP.mono (Nat.le_succ a)) sz hk q
    · omega
  · exact out (.inl (by omega))
theorem ok_second (T : Txt G C_Ratio C_OutOfBounds) (x_OutOfBounds : Exc G "OutOfBounds" C_OutOfBounds ["value"]) (c__of_degree : Cal G 3 "_of_degree" 3 (S_deg C_Ratio) []) {f : Addr} {fd : FuncData} (F : L2.Fun G.K "second_kind" "second_kind" s_second_kind f fd) (b : L2.Binds G.K fd ["value", "many"] []) : Fnx G 4 f 2 (S_kind C_Ratio C_OutOfBounds 2) [] := by
  refine fnx_of F sc_second_kind rfl b .nil rfl (fun cdv A outer s H FF hr tk => ⟨_, (pss_cons (ps_if (pt_not (pt_ch os_le os_le pe_int (pe_var (i := 1) rfl (Or.inl rfl) nd_many.1 nd_many.2) (pe_gcD rfl T.gc_MOST_ROUNDS))) (pss_one (ps_rs x_OutOfBounds rfl hr (by decide) tk rfl (pa_cons (pe_var (i := 1) rfl (Or.inl rfl) nd_many.1 nd_many.2) pa_nil))) pss_nil) (pss_one (ps_ret (pe_cl c__of_degree hr (by decide) tk rfl (pa_cons (pe_var (i := 0) rfl (Or.inl rfl) nd_value.1 nd_value.2) (pa_cons (pe_bin (os_mul hr tk) pe_int (pe_fld (pe_var (i := 0) rfl (Or.inl rfl) nd_value.1 nd_value.2) rfl)) (pa_cons (pe_var (i := 1) rfl (Or.inl rfl) nd_many.1 nd_many.2) pa_nil))))))), ?_⟩)
  rintro ds m K E - ⟨P, Q, n, rfl, hQ, h⟩
  show Ws _ _ _ [some (rat C_Ratio P Q), some (.int n)] _ _
  dsimp only [cx_G, cx_K]
  have R := T.R
  have out : (n < 0 ∨ 100 < n) → E ⟨C_OutOfBounds, ["value"], [.int n]⟩ m := fun o => by
    rcases h with ⟨k, a, rfl, hk, _⟩ | ⟨_, q⟩
    · omega
    · exact q
  walk_at "go"
  · exact out (.inr (by omega))
  · rcases h with ⟨k, a, rfl, hk, bP, bQ, sz, q⟩ | ⟨o, _⟩
    · exact (bd_lit (n := 2) (x := 2) (by decide)).mulX bP (by have := sz.a; omega)
    · omega
  · rcases h with ⟨k, a, rfl, hk, bP, bQ, sz, q⟩ | ⟨o, _⟩
    · exact use_deg hQ bP bQ (bd_two bP) sz hk q
    · omega
  · exact out (.inl (by omega))
/-! ### the error's own making -/
theorem ok_oob (ox : OexC G.K C_OutOfBounds) (hno : PySem.W.findIn G.K (.ref C_OutOfBounds) "value" = some none) {f : Addr} {fd : FuncData} (F : L2.Fun G.K "__init__" "OutOfBounds.__init__" s_OutOfBounds___init__ f fd) : FnOk G.P G.w G.K G.mg G.base CX0 1 f fd ["self", "value"] (spXI C_OutOfBounds ["value"]) := by
  refine F.ok sc_OutOfBounds___init__ (fun vs H Q E h => ?_) (fun cdv A outer s H vs Q E hr h => ?_)
  · obtain ⟨a, ys, rfl, hl, _⟩ := h
    rw [List.length_cons, hl]
    rfl
  · obtain ⟨a, ys, rfl, hl, ha, k⟩ := h
    obtain ⟨y, rfl⟩ := List.length_eq_one_iff.mp hl
    refine ⟨_, pss_one (ps_ost (pv 0) (pv 1)), ?_⟩
    refine ⟨_, rfl, _, rfl, a, C_OutOfBounds, rfl, ox, hno, .inl ⟨ha, fun dx hdx hne => ?_⟩⟩
    exact k dx _ hdx hne (fun b hb1 hb2 => by rw [upd_ne hb1, upd_ne hb2]) upd_same (by rw [upd_ne hne]; exact upd_same)
end
end K52
set_option Elab.async false
set_option linter.all false
set_option maxRecDepth 100000
namespace K52
open PySem PySem.Spec L2 DL
open PyProof.Rows hiding St
/-! one step -/
local macro_rules | `(tactic| walk_at "dl1") => `(tactic| first
  | (with_reducible first
    | refine ws_seq ?_ | refine ws_ret ?_ | refine ws_asg ?_ | refine ws_next ?_ | refine ws_drop ?_ | refine ws_par ?_ | refine ws_par3 ?_ | refine ws_fldN ?_
    | refine wt_test ?_ | refine wt_tr ?_ | refine wt_and ?_ | refine wt_or ?_ | refine wt_not ?_
    | refine we_cint ?_ | refine we_cbl ?_ | refine we_cnon ?_ | refine we_cty ?_ | refine we_cref ?_
    | refine we_2 ?_ | refine we_1 ?_ | refine we_op ?_ | refine we_c2 ?_ | refine we_tup ?_ | refine we_andV ?_ | refine we_orV ?_ | refine we_notV ?_ | refine we_3 ?_ | refine we_fldF ?_ | refine we_cl0 ?_ | refine we_clH ?_
    | refine wa_nil ?_ | refine wa_cons ?_ | refine wg_name ?_ | refine wg_subM ?_ | refine wg_tup rfl ?_ | refine wgs_cons ?_ | refine wgs_nil ?_
    | refine w2_add ?_ | refine w2_sub ?_ | refine w2_mul ⟨?_, ?_⟩ | refine w2_fdiv ⟨?_, ?_⟩ | refine w2_mod ⟨?_, ?_⟩ | refine w2_pow ⟨?_, ?_⟩ | refine w2_eqI ?_ | refine w2_neI ?_ | refine w2_eqIH ?_ | refine w2_lt ?_ | refine w2_le ?_ | refine w2_gt ?_ | refine w2_ge ?_ | refine w1_neg ?_ | refine w2_isN ?_ | refine w2_notN ?_
    | refine wc_int ?_ | refine wc_abs ?_ | refine wc_min ?_ | refine wc_gcd ?_
    | refine wc_isiT .int kit_ii ?_ | refine wc_isiT .int kit_ib ?_)
  | ((with_reducible refine we_var (d := ?d) ?hv ?hk); case hv => rfl)
  | ((with_reducible refine w2_ixT (d := ?d) ⟨?hv, ?hk⟩); case hv => rfl)
  | ((with_reducible refine w2_ixL (d := ?d) ⟨?hv, ?hk⟩); case hv => rfl)
  | ((with_reducible refine w2_ixM (d := ?d) .head ⟨?hv, ?hk⟩); case hv => rfl)
  | (with_reducible refine wc_len .lst ?_) | (with_reducible refine wc_len .tup ?_)
  | (with_reducible refine fld_top (by assumption) ?_) | (with_reducible refine fld_bottom (by assumption) ?_)
  | (with_reducible refine setN_top (by assumption) ?_) | (with_reducible refine setN_bottom (by assumption) ?_)
  | fail)
local macro_rules | `(tactic| walk_at "dl2") => `(tactic| first
  | (with_reducible refine ⟨_, rfl, ?_⟩)
  | (with_reducible refine ⟨_, .bl, ?_⟩)
  | ((with_reducible refine ⟨?h, ?_⟩); case h => rfl)
  | (with_reducible refine ⟨_, _, rfl, ?_⟩)
  | (with_reducible refine ⟨_, _, _, rfl, ?_⟩)
  | ((with_reducible refine ⟨_, _, _, ?j, _, rfl, rfl, .head, ?h, .head, ?_⟩); case h => rfl)
  | fail)
local macro_rules | `(tactic| walk_at "br") => `(tactic| ((with_reducible refine ⟨fun hb => ?_, fun hb => ?_⟩) <;> (try simp only [decide_eq_true_eq, decide_eq_false_iff_not, Bool.not_eq_true', Bool.not_eq_false', Bool.and_eq_true, Bool.or_eq_true, reduceCtorEq, List.length_map, Bool.not_true, Bool.not_false, isNon] at hb)))
local macro_rules | `(tactic| walk_at "wif") => `(tactic| (with_reducible refine ws_if ?_))
local macro_rules | `(tactic| walk_at "dl") => `(tactic| repeat (first | walk_at "dl1" | walk_at "wif" | walk_at "dl2" | fail))
local macro_rules | `(tactic| walk_at "gn") => `(tactic| repeat' (first | walk_at "dl1" | walk_at "use" | walk_at "dl2" | walk_at "br" | fail))
local macro_rules | `(tactic| walk_at "go") => `(tactic| repeat' (first | walk_at "dl1" | walk_at "wif" | walk_at "use" | walk_at "dl2" | walk_at "br" | fail))

section
variable {G : Gx} {C_Ratio C_OutOfBounds : Addr}
def KA (P Q : Int) (k : Nat) : Prop := ∃ a, Bd a P ∧ Bd a Q ∧ Szn a k
theorem use_kind {C CE : Addr} {c P Q : Int} {k : Nat} {m : Mu} {K : KT} {E : Ex → Mu → Prop} (hQ : 0 < Q) (ka : KA P Q k) (hk : k ≤ 100) (h : K (rat C (rT (sq (c * P) P Q k) (Q ^ k)) (rB (sq (c * P) P Q k) (Q ^ k))) m) : S_kind C CE c [rat C P Q, .int (k : Nat)] m K E := by
  obtain ⟨a, bP, bQ, sz⟩ := ka
  exact ⟨P, Q, k, rfl, hQ, .inl ⟨k, a, rfl, hk, bP, bQ, sz, h⟩⟩
theorem use_own {p q : Int} {n : Nat} {m : Mu} {K : KT} {E : Ex → Mu → Prop} (ka : KA p q n) (hn : n ≤ 101) (h : K (.tup [.tup [.int (sq p p q n), .int (q ^ n)], .tup [.int (sq (2 * p) p q n), .int (q ^ n)]]) m) : S_own [.tup [.int p, .int q], .int (n : Nat)] m K E := by
  obtain ⟨a, hp, hq, sz⟩ := ka
  exact ⟨p, q, n, a, rfl, hp, hq, hn, sz.a, h⟩
theorem use_kindM {C CE : Addr} {c P Q : Int} {k : Nat} {m : Mu} {K : KT} {E : Ex → Mu → Prop} (hQ : 0 < Q) (ka : KA P Q k) (hk : k ≤ 100) (h : K (rat C (rT (sq (c * P) P Q k) (Q ^ k)) (rB (sq (c * P) P Q k) (Q ^ k))) m) : S_kind C CE c [rat C P Q, .int (((k + 1 : Nat) : Int) - 1)] m K E := by
  have e : ((k + 1 : Nat) : Int) - 1 = (k : Nat) := by omega
  rw [e]
  exact use_kind hQ ka hk h
theorem use_powerN {x : Int} {n : Nat} {m : Mu} {K : KT} {E : Ex → Mu → Prop} (h1 : n ≤ 100) (hx : Bd 9000 x) (h : K (.int (x ^ n)) m) : S_power [.int x, .int (n : Nat)] m K E := ⟨x, n, rfl, by omega, by omega, hx, h⟩
theorem KA.sq1 {p q : Int} {n : Nat} (ka : KA p q n) : Bd 9000 (sq p p q n) ∧ Bd 9000 (sq (2 * p) p q n) ∧ Bd 9000 (q ^ n) := by
  obtain ⟨a, bP, bQ, sz⟩ := ka
  exact ⟨(sz.sq (bP.mono (Nat.le_succ a)) bP bQ (k := n) (by omega)).mono (by decide), (sz.sq (bd_two bP) bP bQ (k := n) (by omega)).mono (by decide), (sz.pow bQ (k := n) (by omega)).mono (by decide)⟩
theorem KA.one {P Q : Int} {k : Nat} (hQ : 0 < Q) (ka : KA P Q k) : Lo 9000 (rT (sq (1 * P) P Q k) (Q ^ k)) (rB (sq (1 * P) P Q k) (Q ^ k)) := by
  obtain ⟨h1, _, h3⟩ := ka.sq1
  rw [Int.one_mul]
  exact lo_rat (pnz k (by omega)) h1 h3
theorem KA.two {P Q : Int} {k : Nat} (hQ : 0 < Q) (ka : KA P Q k) : Lo 9000 (rT (sq (2 * P) P Q k) (Q ^ k)) (rB (sq (2 * P) P Q k) (Q ^ k)) := by
  obtain ⟨_, h1, h3⟩ := ka.sq1
  exact lo_rat (pnz k (by omega)) h1 h3
theorem KA.rat {p q : Int} {n : Nat} (hq : q ≠ 0) (ka : KA p q n) : KA (rT p q) (rB p q) n := by
  obtain ⟨a, bP, bQ, sz⟩ := ka
  exact ⟨a, rat_bd hq bP, rat_bdB hq bQ, sz⟩
theorem KA.bd {p q : Int} {n : Nat} (ka : KA p q n) : Bd 3500 p ∧ Bd 3500 q := by
  obtain ⟨a, bP, bQ, sz⟩ := ka
  exact ⟨bP.mono sz.a, bQ.mono sz.a⟩
theorem KA.less {p q : Int} {n k : Nat} (ka : KA p q n) (h : k ≤ n) : KA p q k := by
  obtain ⟨a, bP, bQ, sz⟩ := ka
  exact ⟨a, bP, bQ, Nat.le_trans (Nat.mul_le_mul_left _ (by omega)) sz⟩
theorem own_law {p q c : Int} {n : Nat} (hq : q ≠ 0) : rT (sq (c * rT p q) (rT p q) (rB p q) n) (rB p q ^ n) * q ^ n = sq (c * p) p q n * rB (sq (c * rT p q) (rT p q) (rB p q) n) (rB p q ^ n) := by
  obtain ⟨g, hg, e1, e2, pos⟩ := rat_eqs (t := p) hq
  generalize rT p q = P at *
  generalize rB p q = Q at *
  have h := cross_own (g := g) (P := P) (Q := Q) (x := c * P) (n := n) (by omega)
  have e3 : c * p = g * (c * P) := by rw [e1]; ac_rfl
  rw [e3, e1, e2]
  exact h
theorem Bd.addS {a b : Nat} {x y : Int} (h : Bd a x) (k : Bd b y) : Bd (a + b + 1) (x + y) := (h.mono (Nat.le_add_right a b)).add (k.mono (Nat.le_add_left b a))
theorem Bd.subS {a b : Nat} {x y : Int} (h : Bd a x) (k : Bd b y) : Bd (a + b + 1) (x - y) := (h.mono (Nat.le_add_right a b)).sub (k.mono (Nat.le_add_left b a))
theorem bd2 : Bd 2 2 := bd_lit (by decide)
theorem bd_mono9 {x : Int} (h : Bd 9000 x) : Bd 1000000 x := h.mono (by decide)
theorem bd_mono35 {x : Int} (h : Bd 3500 x) : Bd 1000000 x := h.mono (by decide)
theorem bd_mono358 {x : Int} (h : Bd 3500 x) : Bd 8000 x := h.mono (by decide)
theorem bd_mono359 {x : Int} (h : Bd 3500 x) : Bd 9000 x := h.mono (by decide)
local macro_rules | `(tactic| walk_at "bd") => `(tactic| repeat' (first | (with_reducible assumption) | exact bd2 | (with_reducible apply Bd.mulX) | (with_reducible refine bd_mono9 ?_; assumption) | (with_reducible refine bd_mono35 ?_; assumption) | (with_reducible refine bd_mono358 ?_; assumption) | (with_reducible refine bd_mono359 ?_; assumption) | (with_reducible apply Bd.mul) | (with_reducible apply Bd.addS) | (with_reducible apply Bd.subS) | (with_reducible apply Bd.neg) | decide | fail))
local macro_rules | `(tactic| walk_at "use") => `(tactic| first | (with_reducible refine use_whole ?_) | (with_reducible refine use_common ?_ ?_ ?_) | (with_reducible refine use_powerN ?_ ?_ ?_) | (with_reducible refine use_power ?_ ?_ ?_ ?_) | (with_reducible refine use_told ?_ ?_ ?_ ?_ ?_) | (with_reducible refine use_sameT ?_ ?_ ?_ ?_ ?_ ?_) | (with_reducible refine use_digit ?_ ?_ (by assumption) fun dg m' d0 d1 hpm => ?_) | (with_reducible refine use_own ?_ ?_ ?_) | (with_reducible refine use_kind ?_ ?_ ?_ ?_) | (with_reducible refine use_kindM ?_ ?_ ?_ ?_) | (with_reducible refine we_ratio ?_) | (with_reducible refine RatA.mk ?_ ?_ ?_) | (with_reducible refine ws_rs ?_) | fail)

/-- the fractions that the law draws -/
def S_fraction : SpecD := fun ds m K _ => ∃ p m0, ds = [.ref p] ∧ PotM p m0 m ∧ ∀ t b m', t.natAbs ≤ 1000000 → 0 < b → b ≤ 1000000 → PotM p m0 m' → K (.tup [.int t, .int b]) m'
theorem ok_fraction (T : Txt G C_Ratio C_OutOfBounds) (c__law_digit : Cal G 1 "_law_digit" 2 S_digit []) {f : Addr} {fd : FuncData} (F : L2.Fun G.K "_law_fraction" "_law_fraction" s__law_fraction f fd) (b : L2.Binds G.K fd ["pot"] []) : Fnx G 2 f 1 S_fraction [] := by
  refine fnx_of F sc__law_fraction rfl b .nil rfl (fun cdv A outer s H FF hr tk => ⟨_, (pss_cons (ps_set (i := 1) sc__law_fraction.nd rfl (Or.inl rfl) (pe_bin (os_sub hr tk) (pe_bin os_mod (pe_ct cs_int rfl T.n_int bt_int (pa_cons (pe_bin (os_add hr tk) (pe_cl c__law_digit hr (by decide) tk rfl (pa_cons (pe_var (i := 0) rfl (Or.inl rfl) nd_pot.1 nd_pot.2) (pa_cons pe_int pa_nil))) pe_int) pa_nil)) pe_int) pe_int)) (pss_cons (ps_set (i := 2) sc__law_fraction.nd rfl (Or.inl rfl) (pe_bin (os_add hr tk) pe_int (pe_bin os_mod (pe_ct cs_int rfl T.n_int bt_int (pa_cons (pe_bin (os_add hr tk) (pe_cl c__law_digit hr (by decide) tk rfl (pa_cons (pe_var (i := 0) rfl (Or.inl rfl) nd_pot.1 nd_pot.2) (pa_cons pe_int pa_nil))) pe_int) pa_nil)) pe_int))) (pss_cons (ps_if (pt_cm (os_eq hr tk) (pe_cl c__law_digit hr (by decide) tk rfl (pa_cons (pe_var (i := 0) rfl (Or.inl rfl) nd_pot.1 nd_pot.2) (pa_cons pe_int pa_nil))) pe_int (nomark _)) (pss_cons (ps_set (i := 1) sc__law_fraction.nd rfl (Or.inl rfl) (pe_bin (os_sub hr tk) (pe_cl c__law_digit hr (by decide) tk rfl (pa_cons (pe_var (i := 0) rfl (Or.inl rfl) nd_pot.1 nd_pot.2) (pa_cons (pe_bin (os_add hr tk) (pe_bin (os_mul hr tk) pe_int (pe_bin os_pow pe_int pe_int)) pe_int) pa_nil))) (pe_bin os_pow pe_int pe_int))) (pss_one (ps_set (i := 2) sc__law_fraction.nd rfl (Or.inl rfl) (pe_bin (os_add hr tk) pe_int (pe_cl c__law_digit hr (by decide) tk rfl (pa_cons (pe_var (i := 0) rfl (Or.inl rfl) nd_pot.1 nd_pot.2) (pa_cons (pe_bin os_pow pe_int pe_int) pa_nil))))))) pss_nil) (pss_one (ps_ret (pe_tup (pa_cons (pe_var (i := 1) rfl (Or.inl rfl) nd_top.1 nd_top.2) (pa_cons (pe_var (i := 2) rfl (Or.inl rfl) nd_bottom.1 nd_bottom.2) pa_nil)))))))), ?_⟩)
  rintro ds m K E - ⟨p, m0, rfl, hm, k⟩
  show Ws _ _ _ [some (.ref p), none, none] _ _
  dsimp only [cx_G, cx_K]
  have e6 : ∀ z : Int, z.toNat = 6 → (10 : Int) ^ z.toNat = 1000000 := fun z hz => by rw [hz]; rfl
  have f19 : ∀ z : Int, 0 ≤ z → 0 ≤ z.fmod 19 ∧ z.fmod 19 < 19 := fun z hz => by
    rw [Int.fmod_eq_emod_of_nonneg _ (by omega)]
    omega
  have f9 : ∀ z : Int, 0 ≤ z → 0 ≤ z.fmod 9 ∧ z.fmod 9 < 9 := fun z hz => by
    rw [Int.fmod_eq_emod_of_nonneg _ (by omega)]
    omega
  have sm : ∀ x y : Int, 0 ≤ x → 0 ≤ y → ∀ m', PotM p m0 m' → K (.tup [.int ((x + 14).fmod 19 - 9), .int (1 + (y + 3).fmod 9)]) m' := fun x y hx hy m' hm => by
    have := f19 (x + 14) (by omega)
    have := f9 (y + 3) (by omega)
    exact k _ _ _ (by omega) (by omega) (by omega) hm
  have bg : ∀ x y : Int, 0 ≤ x → x < 2 * 10 ^ Int.toNat 6 + 1 → 0 ≤ y → y < 10 ^ Int.toNat 6 → ∀ m', PotM p m0 m' → K (.tup [.int (x - 10 ^ Int.toNat 6), .int (1 + y)]) m' := fun x y hx hx2 hy hy2 m' hm => by
    rw [e6 6 rfl] at *
    exact k _ _ _ (by omega) (by omega) (by omega) hm
  have cp : CPow 10 6 := by
    unfold CPow
    decide
  walk_at "go"
  all_goals first
    | exact cp
    | exact sm _ _ (by assumption) (by assumption) _ (by assumption)
    | exact bg _ _ (by assumption) (by assumption) (by assumption) (by assumption) _ (by assumption)
    | exact (bd_lit (n := 9) (by decide) : Bd 9 _).mono (by decide) 
    | exact bd_lit (by decide)
    | decide
    | exact (bd2.mulX (bd_lit (n := 30) (by decide)) (by decide))
    | skip
def S_both (C : Addr) : SpecD := fun ds m K _ => ∃ p q n, ds = [.tup [.int p, .int q], .int (n : Nat)] ∧ q ≠ 0 ∧ KA p q n ∧ n ≤ 100 ∧ K (.bl true) m
theorem ok_both (T : Txt G C_Ratio C_OutOfBounds) (k_Ratio : Mak G 1 "Ratio" C_Ratio 3 (S_init C_Ratio) []) (c_first_kind : Cal G 4 "first_kind" 2 (S_kind C_Ratio C_OutOfBounds 1) []) (c_second_kind : Cal G 4 "second_kind" 2 (S_kind C_Ratio C_OutOfBounds 2) []) (c__law_told : Cal G 2 "_law_told" 1 (S_told C_Ratio) []) (c__law_own : Cal G 2 "_law_own" 2 S_own []) (c__law_same : Cal G 1 "_law_same" 2 S_same []) {f : Addr} {fd : FuncData} (F : L2.Fun G.K "_law_both" "_law_both" s__law_both f fd) (b : L2.Binds G.K fd ["pair", "many"] []) : Fnx G 5 f 2 (S_both C_Ratio) [] := by
  refine fnx_of F sc__law_both rfl b .nil rfl (fun cdv A outer s H FF hr tk => ⟨_, (pss_cons (ps_set (i := 2) sc__law_both.nd rfl (Or.inl rfl) (pe_mak k_Ratio hr (by decide) tk rfl (pa_cons (pe_ix ix_seq (pe_var (i := 0) rfl (Or.inl rfl) nd_pair.1 nd_pair.2) pe_int (fun _ _ => rfl)) (pa_cons (pe_ix ix_seq (pe_var (i := 0) rfl (Or.inl rfl) nd_pair.1 nd_pair.2) pe_int (fun _ _ => rfl)) pa_nil)))) (pss_cons (ps_set (i := 3) sc__law_both.nd rfl (Or.inl rfl) (pe_cl c__law_told hr (by decide) tk rfl (pa_cons (pe_cl c_first_kind hr (by decide) tk rfl (pa_cons (pe_var (i := 2) rfl (Or.inl rfl) nd_value.1 nd_value.2) (pa_cons (pe_var (i := 1) rfl (Or.inl rfl) nd_many.1 nd_many.2) pa_nil))) pa_nil))) (pss_cons (ps_set (i := 4) sc__law_both.nd rfl (Or.inl rfl) (pe_cl c__law_told hr (by decide) tk rfl (pa_cons (pe_cl c_second_kind hr (by decide) tk rfl (pa_cons (pe_var (i := 2) rfl (Or.inl rfl) nd_value.1 nd_value.2) (pa_cons (pe_var (i := 1) rfl (Or.inl rfl) nd_many.1 nd_many.2) pa_nil))) pa_nil))) (pss_cons (ps_asg (pe_cl c__law_own hr (by decide) tk rfl (pa_cons (pe_var (i := 0) rfl (Or.inl rfl) nd_pair.1 nd_pair.2) (pa_cons (pe_var (i := 1) rfl (Or.inl rfl) nd_many.1 nd_many.2) pa_nil))) (pg_tup rfl (pgs_cons (pg_name (i := 5) sc__law_both.nd rfl (Or.inl rfl)) (pgs_cons (pg_name (i := 6) sc__law_both.nd rfl (Or.inl rfl)) pgs_nil)))) (pss_cons (ps_if (PW.pt (pw_or (pt_not (pt_tr (pe_cl c__law_same hr (by decide) tk rfl (pa_cons (pe_var (i := 3) rfl (Or.inl rfl) nd_one.1 nd_one.2) (pa_cons (pe_var (i := 5) rfl (Or.inl rfl) nd_first.1 nd_first.2) pa_nil))))) (pw_or1 (pt_not (pt_tr (pe_cl c__law_same hr (by decide) tk rfl (pa_cons (pe_var (i := 4) rfl (Or.inl rfl) nd_two.1 nd_two.2) (pa_cons (pe_var (i := 6) rfl (Or.inl rfl) nd_second.1 nd_second.2) pa_nil)))))))) (pss_one (ps_ret pe_bl)) pss_nil) (pss_one (ps_ret (pe_cl c__law_same hr (by decide) tk rfl (pa_cons (pe_cl c__law_told hr (by decide) tk rfl (pa_cons (pe_var (i := 2) rfl (Or.inl rfl) nd_value.1 nd_value.2) pa_nil)) (pa_cons (pe_var (i := 0) rfl (Or.inl rfl) nd_pair.1 nd_pair.2) pa_nil)))))))))), ?_⟩)
  rintro ds m K E - ⟨p, q, n, rfl, hq0, ka, hn, k⟩
  show Ws _ _ _ [some (.tup [.int p, .int q]), some (.int n), none, none, none, none, none] _ _
  dsimp only [cx_G, cx_K]
  obtain ⟨bp, bq⟩ := ka.bd
  have kr := ka.rat hq0
  obtain ⟨b1, b2, b3⟩ := ka.sq1
  obtain ⟨hQ, gPQ, bP, bQ⟩ := lo_rat hq0 bp bq
  obtain ⟨p1, g1, t1, u1⟩ := kr.one hQ
  obtain ⟨p2, g2, t2, u2⟩ := kr.two hQ
  have o1 : rT (sq (1 * rT p q) (rT p q) (rB p q) n) (rB p q ^ n) * q ^ n = sq p p q n * rB (sq (1 * rT p q) (rT p q) (rB p q) n) (rB p q ^ n) := by
    have := own_law (p := p) (q := q) (c := 1) (n := n) hq0
    rw [Int.one_mul p] at this
    exact this
  have hn1 : n ≤ 101 := by omega
  have o2 := own_law (p := p) (q := q) (c := 2) (n := n) hq0
  have o3 : rT p q * q = p * rB p q := by
    obtain ⟨g, hg, e1, e2, pos⟩ := rat_eqs (t := p) hq0
    generalize rT p q = P at *
    generalize rB p q = Q at *
    rw [e1, e2]
    ac_rfl
  walk_at "go"
  all_goals walk_at "bd"
def S_squares (C : Addr) : SpecD := fun ds m K _ => ∃ p q n, ds = [.tup [.int p, .int q], .int ((n + 1 : Nat) : Int)] ∧ q ≠ 0 ∧ KA p q (n + 1) ∧ n + 1 ≤ 100 ∧ K (.bl true) m
theorem ok_squares (T : Txt G C_Ratio C_OutOfBounds) (k_Ratio : Mak G 1 "Ratio" C_Ratio 3 (S_init C_Ratio) []) (c_first_kind : Cal G 4 "first_kind" 2 (S_kind C_Ratio C_OutOfBounds 1) []) (c_second_kind : Cal G 4 "second_kind" 2 (S_kind C_Ratio C_OutOfBounds 2) []) (c__law_told : Cal G 2 "_law_told" 1 (S_told C_Ratio) []) {f : Addr} {fd : FuncData} (F : L2.Fun G.K "_law_squares" "_law_squares" s__law_squares f fd) (b : L2.Binds G.K fd ["pair", "many"] []) : Fnx G 5 f 2 (S_squares C_Ratio) [] := by
  refine fnx_of F sc__law_squares rfl b .nil rfl (fun cdv A outer s H FF hr tk => ⟨_, (pss_cons (ps_set (i := 2) sc__law_squares.nd rfl (Or.inl rfl) (pe_mak k_Ratio hr (by decide) tk rfl (pa_cons (pe_ix ix_seq (pe_var (i := 0) rfl (Or.inl rfl) nd_pair.1 nd_pair.2) pe_int (fun _ _ => rfl)) (pa_cons (pe_ix ix_seq (pe_var (i := 0) rfl (Or.inl rfl) nd_pair.1 nd_pair.2) pe_int (fun _ _ => rfl)) pa_nil)))) (pss_cons (ps_set (i := 3) sc__law_squares.nd rfl (Or.inl rfl) (pe_cl c__law_told hr (by decide) tk rfl (pa_cons (pe_cl c_first_kind hr (by decide) tk rfl (pa_cons (pe_var (i := 2) rfl (Or.inl rfl) nd_value.1 nd_value.2) (pa_cons (pe_var (i := 1) rfl (Or.inl rfl) nd_many.1 nd_many.2) pa_nil))) pa_nil))) (pss_cons (ps_set (i := 4) sc__law_squares.nd rfl (Or.inl rfl) (pe_cl c__law_told hr (by decide) tk rfl (pa_cons (pe_cl c_second_kind hr (by decide) tk rfl (pa_cons (pe_var (i := 2) rfl (Or.inl rfl) nd_value.1 nd_value.2) (pa_cons (pe_bin (os_sub hr tk) (pe_var (i := 1) rfl (Or.inl rfl) nd_many.1 nd_many.2) pe_int) pa_nil))) pa_nil))) (pss_cons (ps_if (PW.pt (pw_or (pt_cm os_is (pe_var (i := 3) rfl (Or.inl rfl) nd_one.1 nd_one.2) pe_non (nomark _)) (pw_or1 (pt_cm os_is (pe_var (i := 4) rfl (Or.inl rfl) nd_two.1 nd_two.2) pe_non (nomark _))))) (pss_one (ps_ret pe_bl)) pss_nil) (pss_cons (ps_set (i := 5) sc__law_squares.nd rfl (Or.inl rfl) (pe_bin (os_mul hr tk) (pe_ix ix_seq (pe_var (i := 0) rfl (Or.inl rfl) nd_pair.1 nd_pair.2) pe_int (fun _ _ => rfl)) (pe_ix ix_seq (pe_var (i := 4) rfl (Or.inl rfl) nd_two.1 nd_two.2) pe_int (fun _ _ => rfl)))) (pss_cons (ps_set (i := 6) sc__law_squares.nd rfl (Or.inl rfl) (pe_bin (os_sub hr tk) (pe_bin (os_mul hr tk) (pe_ix ix_seq (pe_var (i := 0) rfl (Or.inl rfl) nd_pair.1 nd_pair.2) pe_int (fun _ _ => rfl)) (pe_ix ix_seq (pe_var (i := 0) rfl (Or.inl rfl) nd_pair.1 nd_pair.2) pe_int (fun _ _ => rfl))) (pe_bin (os_mul hr tk) (pe_ix ix_seq (pe_var (i := 0) rfl (Or.inl rfl) nd_pair.1 nd_pair.2) pe_int (fun _ _ => rfl)) (pe_ix ix_seq (pe_var (i := 0) rfl (Or.inl rfl) nd_pair.1 nd_pair.2) pe_int (fun _ _ => rfl))))) (pss_cons (ps_set (i := 7) sc__law_squares.nd rfl (Or.inl rfl) (pe_bin (os_add hr tk) (pe_bin (os_mul hr tk) (pe_var (i := 5) rfl (Or.inl rfl) nd_bottom.1 nd_bottom.2) (pe_var (i := 5) rfl (Or.inl rfl) nd_bottom.1 nd_bottom.2)) (pe_bin (os_mul hr tk) (pe_bin (os_mul hr tk) (pe_var (i := 6) rfl (Or.inl rfl) nd_gap.1 nd_gap.2) (pe_ix ix_seq (pe_var (i := 4) rfl (Or.inl rfl) nd_two.1 nd_two.2) pe_int (fun _ _ => rfl))) (pe_ix ix_seq (pe_var (i := 4) rfl (Or.inl rfl) nd_two.1 nd_two.2) pe_int (fun _ _ => rfl))))) (pss_one (ps_ret (pe_cm (os_eq hr tk) (pe_bin (os_mul hr tk) (pe_bin (os_mul hr tk) (pe_bin (os_mul hr tk) (pe_ix ix_seq (pe_var (i := 3) rfl (Or.inl rfl) nd_one.1 nd_one.2) pe_int (fun _ _ => rfl)) (pe_ix ix_seq (pe_var (i := 3) rfl (Or.inl rfl) nd_one.1 nd_one.2) pe_int (fun _ _ => rfl))) (pe_var (i := 5) rfl (Or.inl rfl) nd_bottom.1 nd_bottom.2)) (pe_var (i := 5) rfl (Or.inl rfl) nd_bottom.1 nd_bottom.2)) (pe_bin (os_mul hr tk) (pe_bin (os_mul hr tk) (pe_ix ix_seq (pe_var (i := 3) rfl (Or.inl rfl) nd_one.1 nd_one.2) pe_int (fun _ _ => rfl)) (pe_ix ix_seq (pe_var (i := 3) rfl (Or.inl rfl) nd_one.1 nd_one.2) pe_int (fun _ _ => rfl))) (pe_var (i := 7) rfl (Or.inl rfl) nd_right.1 nd_right.2)) (nomark _))))))))))), ?_⟩)
  rintro ds m K E - ⟨p, q, n, rfl, hq0, ka, hn, k⟩
  show Ws _ _ _ [some (.tup [.int p, .int q]), some (.int ((n + 1 : Nat) : Int)), none, none, none, none, none, none] _ _
  dsimp only [cx_G, cx_K]
  obtain ⟨bp, bq⟩ := ka.bd
  have kr := ka.rat hq0
  have kl := kr.less (Nat.le_succ n)
  have hn' : n ≤ 100 := by omega
  obtain ⟨hQ, gPQ, bP, bQ⟩ := lo_rat hq0 bp bq
  obtain ⟨p1, g1, t1, u1⟩ := kr.one hQ
  obtain ⟨p2, g2, t2, u2⟩ := kl.two hQ
  obtain ⟨g, hg, e1, e2, pos⟩ := rat_eqs (t := p) hq0
  have law := squares_law (g := g) (n := n) (by omega : rB p q ≠ 0) e1 e2 (rT (sq (1 * rT p q) (rT p q) (rB p q) (n + 1)) (rB p q ^ (n + 1))) (rB (sq (1 * rT p q) (rT p q) (rB p q) (n + 1)) (rB p q ^ (n + 1))) _ _ (by rw [Int.one_mul]) (by rw [Int.one_mul]) rfl rfl
  walk_at "go"
  all_goals walk_at "bd"
  rw [decide_eq_true law]
  exact k
def S_halves (C : Addr) : SpecD := fun ds m K _ => ∃ t b n, ds = [.tup [.int t, .int b], .int (n : Nat)] ∧ t ≠ 0 ∧ b ≠ 0 ∧ KA t b n ∧ KA (t * t + b * b) (2 * t * b) n ∧ n ≤ 100 ∧ K (.bl true) m
theorem ok_halves (T : Txt G C_Ratio C_OutOfBounds) (k_Ratio : Mak G 1 "Ratio" C_Ratio 3 (S_init C_Ratio) []) (c_first_kind : Cal G 4 "first_kind" 2 (S_kind C_Ratio C_OutOfBounds 1) []) (c__law_told : Cal G 2 "_law_told" 1 (S_told C_Ratio) []) (c__law_power : Cal G 1 "_law_power" 2 S_power []) (c__law_same : Cal G 1 "_law_same" 2 S_same []) {f : Addr} {fd : FuncData} (F : L2.Fun G.K "_law_halves" "_law_halves" s__law_halves f fd) (b : L2.Binds G.K fd ["pair", "many"] []) : Fnx G 5 f 2 (S_halves C_Ratio) [] := by
  refine fnx_of F sc__law_halves rfl b .nil rfl (fun cdv A outer s H FF hr tk => ⟨_, (pss_cons (ps_asg (pe_var (i := 0) rfl (Or.inl rfl) nd_pair.1 nd_pair.2) (pg_tup rfl (pgs_cons (pg_name (i := 2) sc__law_halves.nd rfl (Or.inl rfl)) (pgs_cons (pg_name (i := 3) sc__law_halves.nd rfl (Or.inl rfl)) pgs_nil)))) (pss_cons (ps_set (i := 4) sc__law_halves.nd rfl (Or.inl rfl) (pe_mak k_Ratio hr (by decide) tk rfl (pa_cons (pe_bin (os_add hr tk) (pe_bin (os_mul hr tk) (pe_var (i := 2) rfl (Or.inl rfl) nd_top.1 nd_top.2) (pe_var (i := 2) rfl (Or.inl rfl) nd_top.1 nd_top.2)) (pe_bin (os_mul hr tk) (pe_var (i := 3) rfl (Or.inl rfl) nd_bottom.1 nd_bottom.2) (pe_var (i := 3) rfl (Or.inl rfl) nd_bottom.1 nd_bottom.2))) (pa_cons (pe_bin (os_mul hr tk) (pe_bin (os_mul hr tk) pe_int (pe_var (i := 2) rfl (Or.inl rfl) nd_top.1 nd_top.2)) (pe_var (i := 3) rfl (Or.inl rfl) nd_bottom.1 nd_bottom.2)) pa_nil)))) (pss_cons (ps_set (i := 5) sc__law_halves.nd rfl (Or.inl rfl) (pe_cl c__law_power hr (by decide) tk rfl (pa_cons (pe_var (i := 2) rfl (Or.inl rfl) nd_top.1 nd_top.2) (pa_cons (pe_var (i := 1) rfl (Or.inl rfl) nd_many.1 nd_many.2) pa_nil)))) (pss_cons (ps_set (i := 6) sc__law_halves.nd rfl (Or.inl rfl) (pe_cl c__law_power hr (by decide) tk rfl (pa_cons (pe_var (i := 3) rfl (Or.inl rfl) nd_bottom.1 nd_bottom.2) (pa_cons (pe_var (i := 1) rfl (Or.inl rfl) nd_many.1 nd_many.2) pa_nil)))) (pss_cons (ps_set (i := 7) sc__law_halves.nd rfl (Or.inl rfl) (pe_tup (pa_cons (pe_bin (os_add hr tk) (pe_bin (os_mul hr tk) (pe_var (i := 5) rfl (Or.inl rfl) nd_one.1 nd_one.2) (pe_var (i := 5) rfl (Or.inl rfl) nd_one.1 nd_one.2)) (pe_bin (os_mul hr tk) (pe_var (i := 6) rfl (Or.inl rfl) nd_two.1 nd_two.2) (pe_var (i := 6) rfl (Or.inl rfl) nd_two.1 nd_two.2))) (pa_cons (pe_bin (os_mul hr tk) (pe_bin (os_mul hr tk) pe_int (pe_var (i := 5) rfl (Or.inl rfl) nd_one.1 nd_one.2)) (pe_var (i := 6) rfl (Or.inl rfl) nd_two.1 nd_two.2)) pa_nil)))) (pss_cons (ps_if (pt_cm os_lt (pe_ix ix_seq (pe_var (i := 7) rfl (Or.inl rfl) nd_due.1 nd_due.2) pe_int (fun _ _ => rfl)) pe_int (nomark _)) (pss_one (ps_set (i := 7) sc__law_halves.nd rfl (Or.inl rfl) (pe_tup (pa_cons (pe_una (us_neg hr tk) (pe_ix ix_seq (pe_var (i := 7) rfl (Or.inl rfl) nd_due.1 nd_due.2) pe_int (fun _ _ => rfl))) (pa_cons (pe_una (us_neg hr tk) (pe_ix ix_seq (pe_var (i := 7) rfl (Or.inl rfl) nd_due.1 nd_due.2) pe_int (fun _ _ => rfl))) pa_nil))))) pss_nil) (pss_one (ps_ret (pe_cl c__law_same hr (by decide) tk rfl (pa_cons (pe_cl c__law_told hr (by decide) tk rfl (pa_cons (pe_cl c_first_kind hr (by decide) tk rfl (pa_cons (pe_var (i := 4) rfl (Or.inl rfl) nd_value.1 nd_value.2) (pa_cons (pe_var (i := 1) rfl (Or.inl rfl) nd_many.1 nd_many.2) pa_nil))) pa_nil)) (pa_cons (pe_var (i := 7) rfl (Or.inl rfl) nd_due.1 nd_due.2) pa_nil))))))))))), ?_⟩)
  rintro ds m K E - ⟨t, b, n, rfl, ht0, hb0, ktb, ka, hn, k⟩
  show Ws _ _ _ [some (.tup [.int t, .int b]), some (.int n), none, none, none, none, none, none] _ _
  dsimp only [cx_G, cx_K]
  have hq0 : 2 * t * b ≠ 0 := Int.mul_ne_zero (Int.mul_ne_zero (by decide) ht0) hb0
  obtain ⟨bp, bq⟩ := ka.bd
  obtain ⟨bt, bb⟩ := ktb.bd
  have kr := ka.rat hq0
  obtain ⟨hQ, gPQ, bP, bQ⟩ := lo_rat hq0 bp bq
  obtain ⟨p1, g1, t1, u1⟩ := kr.one hQ
  have bbn : Bd 9000 (b ^ n) := ktb.sq1.2.2
  have btn : Bd 9000 (t ^ n) := by
    obtain ⟨a, x, y, z⟩ := ktb
    exact (KA.sq1 (⟨a, y, x, z⟩ : KA b t n)).2.2
  have btt : Bd 1000000 (t ^ n * t ^ n + b ^ n * b ^ n) := (Bd.addS (btn.mul btn) (bbn.mul bbn)).mono (by decide)
  have b2t : Bd 1000000 (2 * t ^ n * b ^ n) := ((bd2.mul btn).mul bbn).mono (by decide)
  have btt' := btt.neg
  have b2t' := b2t.neg
  have law : rT (sq (1 * rT (t * t + b * b) (2 * t * b)) (rT (t * t + b * b) (2 * t * b)) (rB (t * t + b * b) (2 * t * b)) n) (rB (t * t + b * b) (2 * t * b) ^ n) * (2 * t ^ n * b ^ n) = (t ^ n * t ^ n + b ^ n * b ^ n) * rB (sq (1 * rT (t * t + b * b) (2 * t * b)) (rT (t * t + b * b) (2 * t * b)) (rB (t * t + b * b) (2 * t * b)) n) (rB (t * t + b * b) (2 * t * b) ^ n) := by
    obtain ⟨g, hg, e1, e2, pos⟩ := rat_eqs (t := t * t + b * b) hq0
    rw [Int.one_mul]
    exact halves_law ht0 hb0 (by omega) e1 e2
  have law2 : rT (sq (1 * rT (t * t + b * b) (2 * t * b)) (rT (t * t + b * b) (2 * t * b)) (rB (t * t + b * b) (2 * t * b)) n) (rB (t * t + b * b) (2 * t * b) ^ n) * -(2 * t ^ n * b ^ n) = -(t ^ n * t ^ n + b ^ n * b ^ n) * rB (sq (1 * rT (t * t + b * b) (2 * t * b)) (rT (t * t + b * b) (2 * t * b)) (rB (t * t + b * b) (2 * t * b)) n) (rB (t * t + b * b) (2 * t * b) ^ n) := by
    rw [Int.mul_neg, Int.neg_mul, law]
  walk_at "go"
  all_goals walk_at "bd"
structure TxE (G : Gx) (C : Addr) : Prop where
  xf : XfC G.K C
  nov : PySem.W.findIn G.K (.ref C) "value" = some none
  exm : PySem.W.exmOne G.K (.ref C) (.ref C) = some true
def S_refused (C : Addr) : SpecD := fun ds m K _ => ∃ P Q kd n, ds = [.int kd, rat C P Q, .int n] ∧ 0 < Q ∧ (n < 0 ∨ 100 < n) ∧ K (.bl true) m
theorem ok_refused (T : Txt G C_Ratio C_OutOfBounds) (TE : TxE G C_OutOfBounds) (h__law_whole : CalH G 1 "_law_whole" 1 S_whole) (c_first_kind : Cal G 4 "first_kind" 2 (S_kind C_Ratio C_OutOfBounds 1) []) (c_second_kind : Cal G 4 "second_kind" 2 (S_kind C_Ratio C_OutOfBounds 2) []) {f : Addr} {fd : FuncData} (F : L2.Fun G.K "_law_refused" "_law_refused" s__law_refused f fd) (b : L2.Binds G.K fd ["kind", "value", "many"] []) : Fnx G 5 f 3 (S_refused C_Ratio) [] := by
  refine fnx_of F sc__law_refused rfl b .nil rfl (fun cdv A outer s H FF hr tk => ⟨_, (pss_cons (ps_tryD (i := 3) rfl rfl sc__law_refused.nd rfl rfl ⟨rfl, nd_OutOfBounds.1, .inl T.mg_OutOfBounds⟩ tk (fun W1 pn1 xe1 tk1 po1 => (pss_one (ps_if (pt_cm os_eqH (pe_var (i := 0) rfl (Or.inl rfl) nd_kind.1 nd_kind.2) pe_int (nomark _)) (pss_one (ps_expr (pe_cl c_first_kind hr (by decide) tk1 rfl (pa_cons (pe_var (i := 1) rfl (Or.inl rfl) nd_value.1 nd_value.2) (pa_cons (pe_var (i := 2) rfl (Or.inl rfl) nd_many.1 nd_many.2) pa_nil))))) (pss_one (ps_expr (pe_cl c_second_kind hr (by decide) tk1 rfl (pa_cons (pe_var (i := 1) rfl (Or.inl rfl) nd_value.1 nd_value.2) (pa_cons (pe_var (i := 2) rfl (Or.inl rfl) nd_many.1 nd_many.2) pa_nil)))))))) (fun a1 oe1 cls1 d1 pn1 hz hf => (pss_one (ps_ret (pe_and (pe_clH h__law_whole (rH hr) (by decide) ⟨(a1, oe1), ⟨rfl, hotc hz hf⟩, List.mem_cons_self⟩ takes0N rfl (pa_cons (pe_xfD hz hf (pe_var (i := 3) rfl (Or.inl rfl) nd_e.1 nd_e.2)) pa_nil)) (pe_one (pe_cm os_eqH (pe_xfD hz hf (pe_var (i := 3) rfl (Or.inl rfl) nd_e.1 nd_e.2)) (pe_var (i := 2) rfl (Or.inl rfl) nd_many.1 nd_many.2) (nomark _)))))))) (pss_one (ps_ret pe_bl))), ?_⟩)
  rintro ds m K E - ⟨P, Q, kd, n, rfl, hQ, hn, k⟩
  show Ws _ _ _ [some (.int kd), some (rat C_Ratio P Q), some (.int n), none] _ _
  dsimp only [cx_G, cx_K]
  refine ws_seq (ws_try fun W' => ?_)
  walk_at "go"
  all_goals
    refine ⟨P, Q, n, rfl, hQ, .inr ⟨hn, true, TE.exm, fun _ a dd => ?_, fun z => nomatch z⟩⟩
    walk_at "go"
    refine we_xf TE.xf TE.nov ?_
    walk_at "go"
    refine ⟨_, _, _, rfl, rfl, ?_⟩
    walk_at "go"
    refine we_xf TE.xf TE.nov ?_
    walk_at "go"
    refine ⟨_, _, _, rfl, rfl, ?_⟩
    walk_at "go"
    rw [decide_eq_true rfl]
    exact k
end
end K52
set_option Elab.async false
set_option linter.all false
set_option maxRecDepth 100000
set_option maxHeartbeats 4000000
namespace K52
open PySem PySem.Spec L2 DL
open PyProof.Rows hiding St
/-! one step -/
local macro_rules | `(tactic| walk_at "dl1") => `(tactic| first
  | (with_reducible first
    | refine ws_seq ?_ | refine ws_ret ?_ | refine ws_asg ?_ | refine ws_next ?_ | refine ws_drop ?_ | refine ws_par ?_ | refine ws_par3 ?_ | refine ws_fldN ?_
    | refine wt_test ?_ | refine wt_tr ?_ | refine wt_and ?_ | refine wt_or ?_ | refine wt_not ?_
    | refine we_cint ?_ | refine we_cbl ?_ | refine we_cnon ?_ | refine we_cty ?_ | refine we_cref ?_
    | refine we_2 ?_ | refine we_1 ?_ | refine we_op ?_ | refine we_c2 ?_ | refine we_tup ?_ | refine we_andV ?_ | refine we_orV ?_ | refine we_notV ?_ | refine we_3 ?_ | refine we_fldF ?_ | refine we_cl0 ?_ | refine we_clH ?_
    | refine wa_nil ?_ | refine wa_cons ?_ | refine wg_name ?_ | refine wg_subM ?_ | refine wg_tup rfl ?_ | refine wgs_cons ?_ | refine wgs_nil ?_
    | refine w2_add ?_ | refine w2_sub ?_ | refine w2_mul ⟨?_, ?_⟩ | refine w2_fdiv ⟨?_, ?_⟩ | refine w2_mod ⟨?_, ?_⟩ | refine w2_pow ⟨?_, ?_⟩ | refine w2_eqI ?_ | refine w2_neI ?_ | refine w2_eqIH ?_ | refine w2_lt ?_ | refine w2_le ?_ | refine w2_gt ?_ | refine w2_ge ?_ | refine w1_neg ?_ | refine w2_isN ?_ | refine w2_notN ?_
    | refine wc_int ?_ | refine wc_abs ?_ | refine wc_min ?_ | refine wc_gcd ?_
    | refine wc_isiT .int kit_ii ?_ | refine wc_isiT .int kit_ib ?_)
  | ((with_reducible refine we_var (d := ?d) ?hv ?hk); case hv => rfl)
  | ((with_reducible refine w2_ixT (d := ?d) ⟨?hv, ?hk⟩); case hv => rfl)
  | ((with_reducible refine w2_ixL (d := ?d) ⟨?hv, ?hk⟩); case hv => rfl)
  | ((with_reducible refine w2_ixM (d := ?d) .head ⟨?hv, ?hk⟩); case hv => rfl)
  | (with_reducible refine wc_len .lst ?_) | (with_reducible refine wc_len .tup ?_)
  | (with_reducible refine fld_top (by assumption) ?_) | (with_reducible refine fld_bottom (by assumption) ?_)
  | (with_reducible refine setN_top (by assumption) ?_) | (with_reducible refine setN_bottom (by assumption) ?_)
  | fail)
local macro_rules | `(tactic| walk_at "dl2") => `(tactic| first
  | (with_reducible refine ⟨_, rfl, ?_⟩)
  | (with_reducible refine ⟨_, .bl, ?_⟩)
  | ((with_reducible refine ⟨?h, ?_⟩); case h => rfl)
  | (with_reducible refine ⟨_, _, rfl, ?_⟩)
  | (with_reducible refine ⟨_, _, _, rfl, ?_⟩)
  | ((with_reducible refine ⟨_, _, _, ?j, _, rfl, rfl, .head, ?h, .head, ?_⟩); case h => rfl)
  | fail)
local macro_rules | `(tactic| walk_at "br") => `(tactic| ((with_reducible refine ⟨fun hb => ?_, fun hb => ?_⟩) <;> (try simp only [decide_eq_true_eq, decide_eq_false_iff_not, Bool.not_eq_true', Bool.not_eq_false', Bool.and_eq_true, Bool.or_eq_true, reduceCtorEq, List.length_map, Bool.not_true, Bool.not_false, isNon] at hb)))
local macro_rules | `(tactic| walk_at "wif") => `(tactic| (with_reducible refine ws_if ?_))
local macro_rules | `(tactic| walk_at "dl") => `(tactic| repeat (first | walk_at "dl1" | walk_at "wif" | walk_at "dl2" | fail))
local macro_rules | `(tactic| walk_at "gn") => `(tactic| repeat' (first | walk_at "dl1" | walk_at "use" | walk_at "dl2" | walk_at "br" | fail))
local macro_rules | `(tactic| walk_at "go") => `(tactic| repeat' (first | walk_at "dl1" | walk_at "wif" | walk_at "use" | walk_at "dl2" | walk_at "br" | fail))

theorem Ws.cut {W : WX} {E : ET} {t : TS} {r : Rho} {m : Mu} {P : DEnds} (I : Rho → Mu → Prop) (h : DL.Ws W E t r m { P with nx := I }) (k : ∀ r' m', I r' m' → P.nx r' m') : DL.Ws W E t r m P := fun s H De e z g =>
  h s H De e z ⟨fun r' m' s' H' a b q => g.nx r' m' s' H' a b (k r' m' q), g.rt, g.bk, g.ct⟩
section
variable {G : Gx} {C_Ratio C_OutOfBounds : Addr}
theorem use_fraction {p : Addr} {m m0 : Mu} {K : KT} {E : Ex → Mu → Prop} (hm : PotM p m0 m) (h : ∀ t b m', t.natAbs ≤ 1000000 → 0 < b → b ≤ 1000000 → PotM p m0 m' → K (.tup [.int t, .int b]) m') : S_fraction [.ref p] m K E := ⟨p, m0, rfl, hm, h⟩
theorem use_both {C : Addr} {p q : Int} {n : Nat} {m : Mu} {K : KT} {E : Ex → Mu → Prop} (hq : q ≠ 0) (ka : KA p q n) (hn : n ≤ 100) (h : K (.bl true) m) : S_both C [.tup [.int p, .int q], .int (n : Nat)] m K E := ⟨p, q, n, rfl, hq, ka, hn, h⟩
theorem use_squares {C : Addr} {p q : Int} {n : Nat} {m : Mu} {K : KT} {E : Ex → Mu → Prop} (hq : q ≠ 0) (ka : KA p q n) (hn : n ≤ 100) (h0 : 0 < (n : Int)) (h : K (.bl true) m) : S_squares C [.tup [.int p, .int q], .int (n : Nat)] m K E := by
  cases n with
  | zero => omega
  | succ n => exact ⟨p, q, n, rfl, hq, ka, hn, h⟩
theorem use_halves {C : Addr} {t b : Int} {n : Nat} {m : Mu} {K : KT} {E : Ex → Mu → Prop} (ht : t ≠ 0) (hb : b ≠ 0) (ka : KA t b n) (kh : KA (t * t + b * b) (2 * t * b) n) (hn : n ≤ 100) (h : K (.bl true) m) : S_halves C [.tup [.int t, .int b], .int (n : Nat)] m K E := ⟨t, b, n, rfl, ht, hb, ka, kh, hn, h⟩
theorem use_refused {C : Addr} {P Q kd n : Int} {m : Mu} {K : KT} {E : Ex → Mu → Prop} (hQ : 0 < Q) (hn : n < 0 ∨ 100 < n) (h : K (.bl true) m) : S_refused C [.int kd, rat C P Q, .int n] m K E := ⟨P, Q, kd, n, rfl, hQ, hn, h⟩
theorem bd_20 {x : Int} (h : x.natAbs ≤ 1000000) : Bd 20 x := by unfold Bd; omega
theorem bd_7 {x : Int} (h : x.natAbs ≤ 100) : Bd 7 x := by unfold Bd; omega
def Few (x y : Int) (n : Nat) : Prop := n ≤ 25 ∨ (n ≤ 100 ∧ x.natAbs ≤ 100 ∧ y.natAbs ≤ 100)
theorem Few.le {x y : Int} {n : Nat} (h : Few x y n) : n ≤ 100 := by unfold Few at h; omega
theorem szn_of {a n k : Nat} (h : n ≤ k) (hb : ((a + 2) * (k + 2)).ble 7000 = true) : Szn a n := Nat.le_trans (Nat.mul_le_mul_left _ (by omega)) (Nat.le_of_ble_eq_true hb)
theorem ka_of {x y : Int} {n : Nat} (hx : x.natAbs ≤ 1000000) (hy : y.natAbs ≤ 1000000) (h : Few x y n) : KA x y n := by
  rcases h with h | ⟨h, h1, h2⟩
  · exact ⟨20, bd_20 hx, bd_20 hy, szn_of h (by decide)⟩
  · exact ⟨7, bd_7 h1, bd_7 h2, szn_of h (by decide)⟩
theorem kh_of {x y : Int} {n : Nat} (hx : x.natAbs ≤ 1000000) (hy : y.natAbs ≤ 1000000) (h : Few x y n) : KA (x * x + y * y) (2 * x * y) n := by
  rcases h with h | ⟨h, h1, h2⟩
  · exact ⟨42, (((bd_20 hx).mul (bd_20 hx)).add ((bd_20 hy).mul (bd_20 hy))).mono (by decide), (bd2.mul (bd_20 hx)).mul (bd_20 hy), szn_of h (by decide)⟩
  · exact ⟨16, (((bd_7 h1).mul (bd_7 h1)).add ((bd_7 h2).mul (bd_7 h2))).mono (by decide), (bd2.mul (bd_7 h1)).mul (bd_7 h2), szn_of h (by decide)⟩
theorem KA.neg {x y : Int} {n : Nat} (h : KA x y n) : KA (-x) (-y) n := by
  obtain ⟨a, h1, h2, h3⟩ := h
  exact ⟨a, h1.neg, h2.neg, h3⟩
local macro_rules | `(tactic| walk_at "use") => `(tactic| first | (with_reducible refine use_digit ?_ ?_ (by assumption) fun dg m' d0 d1 hpm => ?_) | (with_reducible refine use_fraction (by assumption) fun t b m' ht hb1 hb2 hpm => ?_) | (with_reducible refine use_both ?_ ?_ ?_ ?_) | (with_reducible refine use_squares ?_ ?_ ?_ ?_ ?_) | (with_reducible refine use_halves ?_ ?_ ?_ ?_ ?_ ?_) | (with_reducible refine use_refused ?_ ?_ ?_) | (with_reducible refine we_ratio ?_) | (with_reducible refine RatA.mk ?_ ?_ ?_) | fail)
theorem ok_law (T : Txt G C_Ratio C_OutOfBounds) (k_Ratio : Mak G 1 "Ratio" C_Ratio 3 (S_init C_Ratio) []) (c__law_pot : Cal G 1 "_law_pot" 1 (S_pot G.K) []) (c__law_digit : Cal G 1 "_law_digit" 2 S_digit []) (c__law_fraction : Cal G 2 "_law_fraction" 1 S_fraction []) (c__law_both : Cal G 5 "_law_both" 2 (S_both C_Ratio) []) (c__law_squares : Cal G 5 "_law_squares" 2 (S_squares C_Ratio) []) (c__law_halves : Cal G 5 "_law_halves" 2 (S_halves C_Ratio) []) (c__law_refused : Cal G 5 "_law_refused" 3 (S_refused C_Ratio) []) {f : Addr} {fd : FuncData} (F : L2.Fun G.K "law" "law" s_law f fd) : FnOk G.P G.w G.K G.mg G.base (L2N.CX G.P G.w) 6 f fd ["script"] (spD 1 (S_law G.K)) := by
  refine fnok_of F sc_law rfl (fun cdv A outer s H FF hr tk => ⟨_, (pss_cons (ps_set (i := 1) sc_law.nd rfl (Or.inl rfl) (pe_cl c__law_pot hr (by decide) tk rfl (pa_cons (pe_var (i := 0) rfl (Or.inl rfl) nd_script.1 nd_script.2) pa_nil))) (pss_cons (ps_set (i := 2) sc_law.nd rfl (Or.inl rfl) (pe_cl c__law_fraction hr (by decide) tk rfl (pa_cons (pe_var (i := 1) rfl (Or.inl rfl) nd_pot.1 nd_pot.2) pa_nil))) (pss_cons (ps_asg (pe_cl c__law_fraction hr (by decide) tk rfl (pa_cons (pe_var (i := 1) rfl (Or.inl rfl) nd_pot.1 nd_pot.2) pa_nil)) (pg_tup rfl (pgs_cons (pg_name (i := 3) sc_law.nd rfl (Or.inl rfl)) (pgs_cons (pg_name (i := 4) sc_law.nd rfl (Or.inl rfl)) pgs_nil)))) (pss_cons (ps_if (pt_cm (os_eq hr tk) (pe_var (i := 3) rfl (Or.inl rfl) nd_top.1 nd_top.2) pe_int (nomark _)) (pss_one (ps_set (i := 3) sc_law.nd rfl (Or.inl rfl) pe_int)) pss_nil) (pss_cons (ps_set (i := 5) sc_law.nd rfl (Or.inl rfl) (pe_bin os_mod (pe_ct cs_int rfl T.n_int bt_int (pa_cons (pe_bin (os_add hr tk) (pe_cl c__law_digit hr (by decide) tk rfl (pa_cons (pe_var (i := 1) rfl (Or.inl rfl) nd_pot.1 nd_pot.2) (pa_cons pe_int pa_nil))) pe_int) pa_nil)) pe_int)) (pss_cons (ps_if (pt_cm (os_eq hr tk) (pe_cl c__law_digit hr (by decide) tk rfl (pa_cons (pe_var (i := 1) rfl (Or.inl rfl) nd_pot.1 nd_pot.2) (pa_cons pe_int pa_nil))) pe_int (nomark _)) (pss_cons (ps_set (i := 5) sc_law.nd rfl (Or.inl rfl) (pe_cl c__law_digit hr (by decide) tk rfl (pa_cons (pe_var (i := 1) rfl (Or.inl rfl) nd_pot.1 nd_pot.2) (pa_cons pe_int pa_nil)))) (pss_one (ps_if (pt_cm os_gt (pe_bin (os_add hr tk) (pe_bin (os_add hr tk) (pe_bin (os_add hr tk) (pe_cb cs_abs rfl T.n_abs bt_abs (pa_cons (pe_ix ix_seq (pe_var (i := 2) rfl (Or.inl rfl) nd_pair.1 nd_pair.2) pe_int (fun _ _ => rfl)) pa_nil)) (pe_ix ix_seq (pe_var (i := 2) rfl (Or.inl rfl) nd_pair.1 nd_pair.2) pe_int (fun _ _ => rfl))) (pe_cb cs_abs rfl T.n_abs bt_abs (pa_cons (pe_var (i := 3) rfl (Or.inl rfl) nd_top.1 nd_top.2) pa_nil))) (pe_var (i := 4) rfl (Or.inl rfl) nd_bottom.1 nd_bottom.2)) pe_int (nomark _)) (pss_one (ps_set (i := 5) sc_law.nd rfl (Or.inl rfl) (pe_bin os_mod (pe_ct cs_int rfl T.n_int bt_int (pa_cons (pe_var (i := 5) rfl (Or.inl rfl) nd_many.1 nd_many.2) pa_nil)) pe_int))) pss_nil))) pss_nil) (pss_cons (ps_set (i := 6) sc_law.nd rfl (Or.inl rfl) (pe_tup (pa_cons (pe_bin (os_add hr tk) (pe_bin (os_mul hr tk) (pe_var (i := 3) rfl (Or.inl rfl) nd_top.1 nd_top.2) (pe_var (i := 3) rfl (Or.inl rfl) nd_top.1 nd_top.2)) (pe_bin (os_mul hr tk) (pe_var (i := 4) rfl (Or.inl rfl) nd_bottom.1 nd_bottom.2) (pe_var (i := 4) rfl (Or.inl rfl) nd_bottom.1 nd_bottom.2))) (pa_cons (pe_bin (os_mul hr tk) (pe_bin (os_mul hr tk) pe_int (pe_var (i := 3) rfl (Or.inl rfl) nd_top.1 nd_top.2)) (pe_var (i := 4) rfl (Or.inl rfl) nd_bottom.1 nd_bottom.2)) pa_nil)))) (pss_cons (ps_if (pt_cm os_lt (pe_ix ix_seq (pe_var (i := 6) rfl (Or.inl rfl) nd_half.1 nd_half.2) pe_int (fun _ _ => rfl)) pe_int (nomark _)) (pss_one (ps_set (i := 6) sc_law.nd rfl (Or.inl rfl) (pe_tup (pa_cons (pe_una (us_neg hr tk) (pe_ix ix_seq (pe_var (i := 6) rfl (Or.inl rfl) nd_half.1 nd_half.2) pe_int (fun _ _ => rfl))) (pa_cons (pe_una (us_neg hr tk) (pe_ix ix_seq (pe_var (i := 6) rfl (Or.inl rfl) nd_half.1 nd_half.2) pe_int (fun _ _ => rfl))) pa_nil))))) pss_nil) (pss_cons (ps_for (passes_of rfl) rfl (pi_seq (pe_lst (pa_cons (pe_var (i := 5) rfl (Or.inl rfl) nd_many.1 nd_many.2) (pa_cons (pe_cb (cs_min rfl) rfl T.n_min bt_min (pa_cons (pe_bin (os_add hr tk) (pe_var (i := 5) rfl (Or.inl rfl) nd_many.1 nd_many.2) pe_int) (pa_cons pe_int pa_nil))) (pa_cons pe_int (pa_cons pe_int (pa_cons (pe_var (i := 5) rfl (Or.inl rfl) nd_many.1 nd_many.2) pa_nil))))))) (pg_name (i := 7) sc_law.nd rfl (Or.inl rfl)) (pss_cons (ps_if (PW.pt (pw_or (pt_not (pt_tr (pe_cl c__law_both hr (by decide) tk rfl (pa_cons (pe_var (i := 2) rfl (Or.inl rfl) nd_pair.1 nd_pair.2) (pa_cons (pe_var (i := 7) rfl (Or.inl rfl) nd_number.1 nd_number.2) pa_nil))))) (pw_or1 (pt_not (pt_tr (pe_cl c__law_both hr (by decide) tk rfl (pa_cons (pe_var (i := 6) rfl (Or.inl rfl) nd_half.1 nd_half.2) (pa_cons (pe_var (i := 7) rfl (Or.inl rfl) nd_number.1 nd_number.2) pa_nil)))))))) (pss_one (ps_ret pe_bl)) pss_nil) (pss_cons (ps_if (PW.pt (pw_and (pt_cm os_gt (pe_var (i := 7) rfl (Or.inl rfl) nd_number.1 nd_number.2) pe_int (nomark _)) (pw_and1 (pt_not (pt_tr (pe_cl c__law_squares hr (by decide) tk rfl (pa_cons (pe_var (i := 2) rfl (Or.inl rfl) nd_pair.1 nd_pair.2) (pa_cons (pe_var (i := 7) rfl (Or.inl rfl) nd_number.1 nd_number.2) pa_nil)))))))) (pss_one (ps_ret pe_bl)) pss_nil) (pss_one (ps_if (pt_not (pt_tr (pe_cl c__law_halves hr (by decide) tk rfl (pa_cons (pe_tup (pa_cons (pe_var (i := 3) rfl (Or.inl rfl) nd_top.1 nd_top.2) (pa_cons (pe_var (i := 4) rfl (Or.inl rfl) nd_bottom.1 nd_bottom.2) pa_nil))) (pa_cons (pe_var (i := 7) rfl (Or.inl rfl) nd_number.1 nd_number.2) pa_nil))))) (pss_one (ps_ret pe_bl)) pss_nil))))) (pss_cons (ps_set (i := 8) sc_law.nd rfl (Or.inl rfl) (pe_mak k_Ratio hr (by decide) tk rfl (pa_cons (pe_ix ix_seq (pe_var (i := 2) rfl (Or.inl rfl) nd_pair.1 nd_pair.2) pe_int (fun _ _ => rfl)) (pa_cons (pe_ix ix_seq (pe_var (i := 2) rfl (Or.inl rfl) nd_pair.1 nd_pair.2) pe_int (fun _ _ => rfl)) pa_nil)))) (pss_cons (ps_set (i := 9) sc_law.nd rfl (Or.inl rfl) (pe_bin (os_sub hr tk) (pe_una (us_neg hr tk) pe_int) (pe_cl c__law_digit hr (by decide) tk rfl (pa_cons (pe_var (i := 1) rfl (Or.inl rfl) nd_pot.1 nd_pot.2) (pa_cons (pe_bin os_pow pe_int pe_int) pa_nil))))) (pss_cons (ps_set (i := 10) sc_law.nd rfl (Or.inl rfl) (pe_bin (os_add hr tk) pe_int (pe_cl c__law_digit hr (by decide) tk rfl (pa_cons (pe_var (i := 1) rfl (Or.inl rfl) nd_pot.1 nd_pot.2) (pa_cons (pe_bin os_pow pe_int pe_int) pa_nil))))) (pss_cons (ps_for (passes_of rfl) rfl (pi_seq (pe_lst (pa_cons (pe_una (us_neg hr tk) pe_int) (pa_cons pe_int (pa_cons (pe_var (i := 9) rfl (Or.inl rfl) nd_below.1 nd_below.2) (pa_cons (pe_var (i := 10) rfl (Or.inl rfl) nd_above.1 nd_above.2) pa_nil)))))) (pg_name (i := 7) sc_law.nd rfl (Or.inl rfl)) (pss_one (ps_if (PW.pt (pw_or (pt_not (pt_tr (pe_cl c__law_refused hr (by decide) tk rfl (pa_cons pe_int (pa_cons (pe_var (i := 8) rfl (Or.inl rfl) nd_value.1 nd_value.2) (pa_cons (pe_var (i := 7) rfl (Or.inl rfl) nd_number.1 nd_number.2) pa_nil)))))) (pw_or1 (pt_not (pt_tr (pe_cl c__law_refused hr (by decide) tk rfl (pa_cons pe_int (pa_cons (pe_var (i := 8) rfl (Or.inl rfl) nd_value.1 nd_value.2) (pa_cons (pe_var (i := 7) rfl (Or.inl rfl) nd_number.1 nd_number.2) pa_nil))))))))) (pss_one (ps_ret pe_bl)) pss_nil))) (pss_one (ps_ret (pe_and (pe_cl c__law_both hr (by decide) tk rfl (pa_cons (pe_tup (pa_cons pe_int (pa_cons pe_int pa_nil))) (pa_cons pe_int pa_nil))) (pe_one (pe_cl c__law_both hr (by decide) tk rfl (pa_cons (pe_tup (pa_cons (pe_una (us_neg hr tk) pe_int) (pa_cons pe_int pa_nil))) (pa_cons pe_int pa_nil)))))))))))))))))))), ?_⟩)
  rintro ds m K E - ⟨d, ns, rfl, sd, hl, hb, rfl, k⟩
  show Ws _ _ _ [some d, none, none, none, none, none, none, none, none, none, none] _ _
  dsimp only [cx_G, cx_K]
  have e6 : ∀ z : Int, z.toNat = 6 → (10 : Int) ^ z.toNat = 1000000 := fun z hz => by rw [hz]; rfl
  have cp : CPow 10 6 := by
    unfold CPow
    decide
  have f13 : ∀ z : Int, 0 ≤ z → 0 ≤ z.fmod 13 ∧ z.fmod 13 < 13 := fun z hz => by
    rw [Int.fmod_eq_emod_of_nonneg _ (by omega)]
    omega
  have f25 : ∀ z : Int, 0 ≤ z → 0 ≤ z.fmod 25 ∧ z.fmod 25 < 25 := fun z hz => by
    rw [Int.fmod_eq_emod_of_nonneg _ (by omega)]
    omega
  walk_at "gn"
  refine ⟨d, ns, rfl, sd, hl, fun p m1 hp hm => ?_⟩
  walk_at "gn"
  rename_i t1 b1 m2 ht1 hb1 hb1' hm2 t2 b2 m3 ht2 hb2 hb2' hm3
  refine Ws.cut (fun r' m' => m' = m3 ∧ ∃ tt : Int, tt ≠ 0 ∧ tt.natAbs ≤ 1000000 ∧ r' = [some d, some (.ref p), some (.tup [.int t1, .int b1]), some (.int tt), some (.int b2), none, none, none, none, none, none]) ?_ ?_
  · walk_at "go"
    · exact ⟨2, by decide, by decide, rfl⟩
    · exact ⟨t2, ‹_›, ht2, rfl⟩
  rintro r' m' ⟨rfl, tt, htt0, htt, rfl⟩
  walk_at "gn"
  all_goals try first | exact cp | exact bd_lit (by decide) | decide
  rename_i d1 m3 hd1 hd1' hm3
  have ff := f13 (d1 + 5) (by omega)
  refine Ws.cut (fun r' m' => PotM p [] m' ∧ ∃ n : Nat, n ≤ 100 ∧ (n ≤ 24 ∨ (t1.natAbs ≤ 100 ∧ b1.natAbs ≤ 100 ∧ tt.natAbs ≤ 100 ∧ b2.natAbs ≤ 100)) ∧ r' = [some d, some (.ref p), some (.tup [.int t1, .int b1]), some (.int tt), some (.int b2), some (.int (n : Nat)), none, none, none, none, none]) ?_ ?_
  · walk_at "go"
    all_goals try first | exact cp | exact bd_lit (by decide) | decide
    · rename_i d3 m5 hd3 hd3' hm5 hs
      have f2 := f25 d3 hd3
      obtain ⟨n, hn⟩ := Int.eq_ofNat_of_zero_le f2.1
      exact ⟨hm5, n, by omega, .inl (by omega), by rw [hn]; rfl⟩
    · rename_i d3 m5 hd3 hd3' hm5 hs
      obtain ⟨n, rfl⟩ := Int.eq_ofNat_of_zero_le hd3
      exact ⟨hm5, n, by omega, .inr (by omega), rfl⟩
    · obtain ⟨n, hn⟩ := Int.eq_ofNat_of_zero_le ff.1
      exact ⟨‹_›, n, by omega, .inl (by omega), by rw [hn]; rfl⟩
  rintro r' m' ⟨hmx, n, hn, few, rfl⟩
  have b1t : Bd 20 tt := bd_20 htt
  have b1b : Bd 20 b2 := bd_20 (by omega)
  have C1 : CMulX tt tt := b1t.mulX b1t (by decide)
  have C2 : CMulX b2 b2 := b1b.mulX b1b (by decide)
  have C3 : CMulX 2 tt := bd2.mulX b1t (by decide)
  have C4 : CMulX (2 * tt) b2 := (bd2.mul b1t).mulX b1b (by decide)
  walk_at "gn"
  all_goals try assumption
  refine Ws.cut (fun r' m'' => m'' = m' ∧ ∃ hh hv : Int, hv ≠ 0 ∧ (∀ z, Few tt b2 z → KA hh hv z) ∧ r' = [some d, some (.ref p), some (.tup [.int t1, .int b1]), some (.int tt), some (.int b2), some (.int (n : Nat)), some (.tup [.int hh, .int hv]), none, none, none, none]) ?_ ?_
  · have h0 : 2 * tt * b2 ≠ 0 := Int.mul_ne_zero (Int.mul_ne_zero (by decide) htt0) (by omega)
    walk_at "go"
    · exact ⟨_, _, by omega, fun z hz => (kh_of htt (by omega) hz).neg, rfl⟩
    · exact ⟨_, _, h0, fun z hz => kh_of htt (by omega) hz, rfl⟩
  rintro r' m'' ⟨rfl, hh, hv, hv0, khh, rfl⟩
  have k1 : ∀ z : Nat, Few t1 b1 z → KA t1 b1 z := fun z hz => ka_of ht1 (by omega) hz
  have k2 : ∀ z : Nat, Few tt b2 z → KA tt b2 z := fun z hz => ka_of htt (by omega) hz
  have k3 : ∀ z : Nat, Few tt b2 z → KA (tt * tt + b2 * b2) (2 * tt * b2) z := fun z hz => kh_of htt (by omega) hz
  have nb1 : b1 ≠ 0 := by omega
  have nb2 : b2 ≠ 0 := by omega
  refine ws_seq (ws_seqI (we_lst ?_))
  walk_at "gn"
  refine ⟨_, fun k r' m' => PotM p [] m' ∧ ∃ x y, r' = [some d, some (.ref p), some (.tup [.int t1, .int b1]), some (.int tt), some (.int b2), some (.int (n : Nat)), some (.tup [.int hh, .int hv]), x, y, none, none], .lst, ⟨hmx, _, _, rfl⟩, ?_, ?_⟩
  · rintro i x r' m' hi ⟨hm', o1, o2, rfl⟩
    have hx : ∃ z : Nat, x = .int z ∧ Few t1 b1 z ∧ Few tt b2 z := by
      have hmem := List.mem_of_getElem? hi
      unfold Few
      simp only [List.mem_cons, List.not_mem_nil, or_false] at hmem
      rcases hmem with rfl | rfl | rfl | rfl | rfl
      · exact ⟨n, rfl, by omega, by omega⟩
      · exact ⟨min (n + 1) 100, by congr 1; omega, by omega, by omega⟩
      · exact ⟨0, rfl, by omega, by omega⟩
      · exact ⟨1, rfl, by omega, by omega⟩
      · exact ⟨n, rfl, by omega, by omega⟩
    obtain ⟨z, rfl, fz1, fz2⟩ := hx
    have kz1 := k1 z fz1
    have kz2 := k2 z fz2
    have kz3 := k3 z fz2
    have kz4 := khh z fz2
    have hz := fz1.le
    walk_at "go"
    all_goals first | assumption | exact absurd ‹true = false› (by decide) | exact absurd ‹false = true› (by decide) | exact ⟨hm', _, _, rfl⟩ | skip
  rintro r' m' ⟨hm', o1, o2, rfl⟩
  have b1B : Bd 8000 b1 := (bd_20 (x := b1) (by omega)).mono (by decide)
  walk_at "gn"
  all_goals try first | assumption | exact cp | exact bd_lit (by decide) | decide
  rename_i d9 m9 hd9 hd9' hm9 d8 m8 hd8 hd8' hm8
  rw [e6 6 rfl] at *
  refine ws_seqI (we_lst ?_)
  walk_at "gn"
  have e1 := (lo_rat (a := 8000) nb1 ((bd_20 ht1).mono (by decide)) b1B).pos
  refine ⟨_, fun k r' m' => ∃ x, r' = [some d, some (.ref p), some (.tup [.int t1, .int b1]), some (.int tt), some (.int b2), some (.int (n : Nat)), some (.tup [.int hh, .int hv]), x, some (rat C_Ratio (rT t1 b1) (rB t1 b1)), some (.int (-2 - d9)), some (.int (102 + d8))], .lst, ⟨_, rfl⟩, ?_, ?_⟩
  · rintro i x r' m' hi ⟨o3, rfl⟩
    have hx : ∃ z : Int, x = .int z ∧ (z < 0 ∨ 100 < z) := by
      have hmem := List.mem_of_getElem? hi
      simp only [List.mem_cons, List.not_mem_nil, or_false] at hmem
      rcases hmem with rfl | rfl | rfl | rfl
      · exact ⟨_, rfl, by omega⟩
      · exact ⟨_, rfl, by omega⟩
      · exact ⟨_, rfl, by omega⟩
      · exact ⟨_, rfl, by omega⟩
    obtain ⟨z, rfl, hz⟩ := hx
    walk_at "go"
    all_goals first | assumption | exact absurd ‹true = false› (by decide) | exact absurd ‹false = true› (by decide) | exact ⟨_, rfl⟩ | skip
  rintro r' m' ⟨o3, rfl⟩
  walk_at "gn"
  refine ⟨1, 2, 100, rfl, by decide, ⟨2, bd_lit (by decide), bd_lit (by decide), szn_of (Nat.le_refl _) (by decide)⟩, by decide, ?_⟩
  walk_at "gn"
  refine ⟨-2, 1, 100, rfl, by decide, ⟨2, bd_lit (by decide), bd_lit (by decide), szn_of (Nat.le_refl _) (by decide)⟩, by decide, ?_⟩
  exact k _
end
end K52
set_option Elab.async false
set_option linter.all false
set_option maxRecDepth 100000
set_option maxHeartbeats 4000000
namespace K52
open PySem PySem.Spec L2 DL
open PyProof.Rows hiding St
theorem exm_self {K : PySem.W.Frag} {S : Addr} (h1 : PySem.W.subIn K (.ref S) (.type "BaseException") = some true) (h2 : PySem.W.isClsIn K S = true) (h3 : PySem.W.typeIn K (.ref S) = some (.type "type")) (h4 : PySem.W.subIn K (.ref S) (.ref S) = some true) :
    PySem.W.exmOne K (.ref S) (.ref S) = some true := by
  have e1 : (PySem.W.subIn K (.ref S) (.type "BaseException") == some true) = true := by rw [h1] <;> rfl
  have e2 : ((PySem.W.clsIn K S).isSome && PySem.W.typeIn K (.ref S) == some (.type "type")) = true := by
    have h2' : (PySem.W.clsIn K S).isSome = true := h2
    rw [h2', h3] <;> rfl
  show (if (PySem.W.subIn K (.ref S) (.type "BaseException") == some true) = true then (if ((PySem.W.clsIn K S).isSome && PySem.W.typeIn K (.ref S) == some (.type "type")) = true then PySem.W.subIn K (.ref S) (.ref S) else none) else none) = some true
  rw [if_pos e1, if_pos e2]
  exact h4
theorem kit_self {K : PySem.W.Frag} {S : Addr} : PySem.W.kitOne K (.ref S) (.ref S) = some true := by
  unfold PySem.W.kitOne
  rw [if_pos]
  simp
theorem all_mk {l : PySem.W.OpenLaw} {w : World} {K : PySem.W.Frag} {h : Heap} {mg : Str → Option Value} {fa : Addr} (X : K.In h) (Gn : h.Ns mainGlobals mg) (hfa : mg "law" = some (.ref fa))
    {C_Ratio : Addr} {C_OutOfBounds N_e_OutOfBounds : Addr} {nm_OutOfBounds q_OutOfBounds : Str} {bs_OutOfBounds bm_OutOfBounds sn_OutOfBounds : _} {sub_OutOfBounds ab_OutOfBounds col_OutOfBounds dd_OutOfBounds m0_OutOfBounds m1_OutOfBounds m2_OutOfBounds m3_OutOfBounds m5_OutOfBounds : _} {f_Ratio___init__ : Addr} {od_Ratio___init__ an_Ratio___init__ : Option Addr} {sl_Ratio___init__ : Array (Option Value)} {oc_Ratio___init__ kV_Ratio___init__ dc_Ratio___init__ pm_Ratio___init__ cd_Ratio___init__ ct_Ratio___init__ : Value} {T_Ratio___init__ : Addr} {tk_Ratio___init__ : Tok} {oT_Ratio___init__ : Option Addr} {nT_Ratio___init__ : Nat} {sT_Ratio___init__ : Array (Option Value)} {cT_Ratio___init__ : Value} {f_OutOfBounds___init__ : Addr} {od_OutOfBounds___init__ an_OutOfBounds___init__ : Option Addr} {sl_OutOfBounds___init__ : Array (Option Value)} {oc_OutOfBounds___init__ kV_OutOfBounds___init__ dc_OutOfBounds___init__ pm_OutOfBounds___init__ cd_OutOfBounds___init__ ct_OutOfBounds___init__ : Value} {f_first_kind : Addr} {od_first_kind an_first_kind : Option Addr} {sl_first_kind : Array (Option Value)} {oc_first_kind kV_first_kind dc_first_kind pm_first_kind cd_first_kind ct_first_kind : Value} {f_second_kind : Addr} {od_second_kind an_second_kind : Option Addr} {sl_second_kind : Array (Option Value)} {oc_second_kind kV_second_kind dc_second_kind pm_second_kind cd_second_kind ct_second_kind : Value} {f__of_degree : Addr} {od__of_degree an__of_degree : Option Addr} {sl__of_degree : Array (Option Value)} {oc__of_degree kV__of_degree dc__of_degree pm__of_degree cd__of_degree ct__of_degree : Value} {f__law_pot : Addr} {od__law_pot an__law_pot : Option Addr} {sl__law_pot : Array (Option Value)} {oc__law_pot kV__law_pot dc__law_pot pm__law_pot cd__law_pot ct__law_pot : Value} {f__law_digit : Addr} {od__law_digit an__law_digit : Option Addr} {sl__law_digit : Array (Option Value)} {oc__law_digit kV__law_digit dc__law_digit pm__law_digit cd__law_digit ct__law_digit : Value} {f__law_whole : Addr} {od__law_whole an__law_whole : Option Addr} {sl__law_whole : Array (Option Value)} {oc__law_whole kV__law_whole dc__law_whole pm__law_whole cd__law_whole ct__law_whole : Value} {f__law_common : Addr} {od__law_common an__law_common : Option Addr} {sl__law_common : Array (Option Value)} {oc__law_common kV__law_common dc__law_common pm__law_common cd__law_common ct__law_common : Value} {f__law_told : Addr} {od__law_told an__law_told : Option Addr} {sl__law_told : Array (Option Value)} {oc__law_told kV__law_told dc__law_told pm__law_told cd__law_told ct__law_told : Value} {f__law_same : Addr} {od__law_same an__law_same : Option Addr} {sl__law_same : Array (Option Value)} {oc__law_same kV__law_same dc__law_same pm__law_same cd__law_same ct__law_same : Value} {f__law_power : Addr} {od__law_power an__law_power : Option Addr} {sl__law_power : Array (Option Value)} {oc__law_power kV__law_power dc__law_power pm__law_power cd__law_power ct__law_power : Value} {f__law_own : Addr} {od__law_own an__law_own : Option Addr} {sl__law_own : Array (Option Value)} {oc__law_own kV__law_own dc__law_own pm__law_own cd__law_own ct__law_own : Value} {f__law_fraction : Addr} {od__law_fraction an__law_fraction : Option Addr} {sl__law_fraction : Array (Option Value)} {oc__law_fraction kV__law_fraction dc__law_fraction pm__law_fraction cd__law_fraction ct__law_fraction : Value} {f__law_both : Addr} {od__law_both an__law_both : Option Addr} {sl__law_both : Array (Option Value)} {oc__law_both kV__law_both dc__law_both pm__law_both cd__law_both ct__law_both : Value} {f__law_squares : Addr} {od__law_squares an__law_squares : Option Addr} {sl__law_squares : Array (Option Value)} {oc__law_squares kV__law_squares dc__law_squares pm__law_squares cd__law_squares ct__law_squares : Value} {f__law_halves : Addr} {od__law_halves an__law_halves : Option Addr} {sl__law_halves : Array (Option Value)} {oc__law_halves kV__law_halves dc__law_halves pm__law_halves cd__law_halves ct__law_halves : Value} {f__law_refused : Addr} {od__law_refused an__law_refused : Option Addr} {sl__law_refused : Array (Option Value)} {oc__law_refused kV__law_refused dc__law_refused pm__law_refused cd__law_refused ct__law_refused : Value} {f_law : Addr} {od_law an_law : Option Addr} {sl_law : Array (Option Value)} {oc_law kV_law dc_law pm_law cd_law ct_law : Value} {tk_MOST_ROUNDS : Tok}
    (a_Ratio : PySem.W.nsIn K mainGlobals "Ratio" = some (some (.ref C_Ratio)))
    (pg_Ratio : PySem.W.plainGet K C_Ratio Str.empty = true)
    (hd_Ratio : PySem.W.hasDictIn K C_Ratio = true)
    (po_Ratio : PySem.W.plainOver K C_Ratio = true)
    (sa_Ratio : PySem.W.findIn K (.ref C_Ratio) "__setattr__" = some (some (.builtin "object.__setattr__")))
    (mk_Ratio : PySem.W.makesIn K C_Ratio = true)
    (kc_Ratio : PySem.W.keepIn K (.ref C_Ratio) = true)
    (ha_Ratio : PySem.W.findIn K (.ref C_Ratio) "__class__" = some (some (.builtin "object.__class__")))
    (mo_Ratio : PySem.W.mroIn K C_Ratio (.type "object") = some true)
    (no_top_Ratio : PySem.W.findIn K (.ref C_Ratio) "top" = some none)
    (no_bottom_Ratio : PySem.W.findIn K (.ref C_Ratio) "bottom" = some none)
    (a_OutOfBounds : PySem.W.nsIn K mainGlobals "OutOfBounds" = some (some (.ref C_OutOfBounds)))
    (l_OutOfBounds : K.lookup C_OutOfBounds = some (excClassObj nm_OutOfBounds q_OutOfBounds C_OutOfBounds N_e_OutOfBounds bs_OutOfBounds bm_OutOfBounds true sn_OutOfBounds sub_OutOfBounds ab_OutOfBounds col_OutOfBounds dd_OutOfBounds m0_OutOfBounds m1_OutOfBounds m2_OutOfBounds m3_OutOfBounds m5_OutOfBounds "ValueError.__new__"))
    (rf_OutOfBounds : PySem.HandSPX.refsVE bm_OutOfBounds = true)
    (sa_OutOfBounds : PySem.W.findIn K (.ref C_OutOfBounds) "__setattr__" = some (some (.builtin "object.__setattr__")))
    (ex_OutOfBounds : PySem.W.subIn K (.ref C_OutOfBounds) (.type "BaseException") = some true)
    (ty_OutOfBounds : PySem.W.typeIn K (.ref C_OutOfBounds) = some (.type "type"))
    (kc_OutOfBounds : PySem.W.keepIn K (.ref C_OutOfBounds) = true)
    (ga_OutOfBounds : PySem.W.findIn K (.ref C_OutOfBounds) "__getattribute__" = some (some (.builtin "BaseException.__getattribute__")))
    (gg_OutOfBounds : PySem.W.findIn K (.ref C_OutOfBounds) "__getattr__" = some none)
    (hd_OutOfBounds : PySem.W.hasDictIn K C_OutOfBounds = true)
    (is_OutOfBounds : PySem.W.isClsIn K C_OutOfBounds = true)
    (su_OutOfBounds : PySem.W.subIn K (.ref C_OutOfBounds) (.ref C_OutOfBounds) = some true)
    (no_value_OutOfBounds : PySem.W.findIn K (.ref C_OutOfBounds) "value" = some none)
    (gs : PySem.W.specialIn K (.builtin "object.__class__") "__get__" = some (some (.builtin "getset_descriptor.__get__")))
    (gt : PySem.W.takesIn K (.builtin "object.__class__") = some true)
    (a_Ratio___init__ : PySem.W.findIn K (.ref C_Ratio) "__init__" = some (some (.ref f_Ratio___init__)))
    (i_Ratio___init__ : PySem.W.isFn K (.ref f_Ratio___init__) = true)
    (l_Ratio___init__ : K.lookup f_Ratio___init__ = some ⟨oc_Ratio___init__, od_Ratio___init__, .func (PySem.W.fnOf "__init__" "Ratio.__init__" (defArgs s_Ratio___init__) (defBody s_Ratio___init__) (defScope s_Ratio___init__) (.ref T_Ratio___init__) kV_Ratio___init__ dc_Ratio___init__ pm_Ratio___init__ an_Ratio___init__ cd_Ratio___init__ ct_Ratio___init__), sl_Ratio___init__⟩)
    (lT_Ratio___init__ : K.lookup T_Ratio___init__ = some ⟨cT_Ratio___init__, oT_Ratio___init__, .seq [Value.int 1 tk_Ratio___init__].toArray nT_Ratio___init__, sT_Ratio___init__⟩)
    (c_Ratio___init__ : PySem.W.codeIn K cd_Ratio___init__ "Ratio.__init__" = true)
    (k_Ratio___init__ : PySem.W.keepIn K (.ref f_Ratio___init__) = true)
    (a_OutOfBounds___init__ : PySem.W.findIn K (.ref C_OutOfBounds) "__init__" = some (some (.ref f_OutOfBounds___init__)))
    (i_OutOfBounds___init__ : PySem.W.typeIn K (.ref f_OutOfBounds___init__) = some (.type "function"))
    (l_OutOfBounds___init__ : K.lookup f_OutOfBounds___init__ = some ⟨oc_OutOfBounds___init__, od_OutOfBounds___init__, .func (PySem.W.fnOf "__init__" "OutOfBounds.__init__" (defArgs s_OutOfBounds___init__) (defBody s_OutOfBounds___init__) (defScope s_OutOfBounds___init__) .none kV_OutOfBounds___init__ dc_OutOfBounds___init__ pm_OutOfBounds___init__ an_OutOfBounds___init__ cd_OutOfBounds___init__ ct_OutOfBounds___init__), sl_OutOfBounds___init__⟩)
    (c_OutOfBounds___init__ : PySem.W.codeIn K cd_OutOfBounds___init__ "OutOfBounds.__init__" = true)
    (k_OutOfBounds___init__ : PySem.W.keepIn K (.ref f_OutOfBounds___init__) = true)
    (a_first_kind : PySem.W.nsIn K mainGlobals "first_kind" = some (some (.ref f_first_kind)))
    (l_first_kind : K.lookup f_first_kind = some ⟨oc_first_kind, od_first_kind, .func (PySem.W.fnOf "first_kind" "first_kind" (defArgs s_first_kind) (defBody s_first_kind) (defScope s_first_kind) .none kV_first_kind dc_first_kind pm_first_kind an_first_kind cd_first_kind ct_first_kind), sl_first_kind⟩)
    (c_first_kind : PySem.W.codeIn K cd_first_kind "first_kind" = true)
    (k_first_kind : PySem.W.keepIn K (.ref f_first_kind) = true)
    (a_second_kind : PySem.W.nsIn K mainGlobals "second_kind" = some (some (.ref f_second_kind)))
    (l_second_kind : K.lookup f_second_kind = some ⟨oc_second_kind, od_second_kind, .func (PySem.W.fnOf "second_kind" "second_kind" (defArgs s_second_kind) (defBody s_second_kind) (defScope s_second_kind) .none kV_second_kind dc_second_kind pm_second_kind an_second_kind cd_second_kind ct_second_kind), sl_second_kind⟩)
    (c_second_kind : PySem.W.codeIn K cd_second_kind "second_kind" = true)
    (k_second_kind : PySem.W.keepIn K (.ref f_second_kind) = true)
    (a__of_degree : PySem.W.nsIn K mainGlobals "_of_degree" = some (some (.ref f__of_degree)))
    (l__of_degree : K.lookup f__of_degree = some ⟨oc__of_degree, od__of_degree, .func (PySem.W.fnOf "_of_degree" "_of_degree" (defArgs s__of_degree) (defBody s__of_degree) (defScope s__of_degree) .none kV__of_degree dc__of_degree pm__of_degree an__of_degree cd__of_degree ct__of_degree), sl__of_degree⟩)
    (c__of_degree : PySem.W.codeIn K cd__of_degree "_of_degree" = true)
    (k__of_degree : PySem.W.keepIn K (.ref f__of_degree) = true)
    (a__law_pot : PySem.W.nsIn K mainGlobals "_law_pot" = some (some (.ref f__law_pot)))
    (l__law_pot : K.lookup f__law_pot = some ⟨oc__law_pot, od__law_pot, .func (PySem.W.fnOf "_law_pot" "_law_pot" (defArgs s__law_pot) (defBody s__law_pot) (defScope s__law_pot) .none kV__law_pot dc__law_pot pm__law_pot an__law_pot cd__law_pot ct__law_pot), sl__law_pot⟩)
    (c__law_pot : PySem.W.codeIn K cd__law_pot "_law_pot" = true)
    (k__law_pot : PySem.W.keepIn K (.ref f__law_pot) = true)
    (a__law_digit : PySem.W.nsIn K mainGlobals "_law_digit" = some (some (.ref f__law_digit)))
    (l__law_digit : K.lookup f__law_digit = some ⟨oc__law_digit, od__law_digit, .func (PySem.W.fnOf "_law_digit" "_law_digit" (defArgs s__law_digit) (defBody s__law_digit) (defScope s__law_digit) .none kV__law_digit dc__law_digit pm__law_digit an__law_digit cd__law_digit ct__law_digit), sl__law_digit⟩)
    (c__law_digit : PySem.W.codeIn K cd__law_digit "_law_digit" = true)
    (k__law_digit : PySem.W.keepIn K (.ref f__law_digit) = true)
    (a__law_whole : PySem.W.nsIn K mainGlobals "_law_whole" = some (some (.ref f__law_whole)))
    (l__law_whole : K.lookup f__law_whole = some ⟨oc__law_whole, od__law_whole, .func (PySem.W.fnOf "_law_whole" "_law_whole" (defArgs s__law_whole) (defBody s__law_whole) (defScope s__law_whole) .none kV__law_whole dc__law_whole pm__law_whole an__law_whole cd__law_whole ct__law_whole), sl__law_whole⟩)
    (c__law_whole : PySem.W.codeIn K cd__law_whole "_law_whole" = true)
    (k__law_whole : PySem.W.keepIn K (.ref f__law_whole) = true)
    (a__law_common : PySem.W.nsIn K mainGlobals "_law_common" = some (some (.ref f__law_common)))
    (l__law_common : K.lookup f__law_common = some ⟨oc__law_common, od__law_common, .func (PySem.W.fnOf "_law_common" "_law_common" (defArgs s__law_common) (defBody s__law_common) (defScope s__law_common) .none kV__law_common dc__law_common pm__law_common an__law_common cd__law_common ct__law_common), sl__law_common⟩)
    (c__law_common : PySem.W.codeIn K cd__law_common "_law_common" = true)
    (k__law_common : PySem.W.keepIn K (.ref f__law_common) = true)
    (a__law_told : PySem.W.nsIn K mainGlobals "_law_told" = some (some (.ref f__law_told)))
    (l__law_told : K.lookup f__law_told = some ⟨oc__law_told, od__law_told, .func (PySem.W.fnOf "_law_told" "_law_told" (defArgs s__law_told) (defBody s__law_told) (defScope s__law_told) .none kV__law_told dc__law_told pm__law_told an__law_told cd__law_told ct__law_told), sl__law_told⟩)
    (c__law_told : PySem.W.codeIn K cd__law_told "_law_told" = true)
    (k__law_told : PySem.W.keepIn K (.ref f__law_told) = true)
    (a__law_same : PySem.W.nsIn K mainGlobals "_law_same" = some (some (.ref f__law_same)))
    (l__law_same : K.lookup f__law_same = some ⟨oc__law_same, od__law_same, .func (PySem.W.fnOf "_law_same" "_law_same" (defArgs s__law_same) (defBody s__law_same) (defScope s__law_same) .none kV__law_same dc__law_same pm__law_same an__law_same cd__law_same ct__law_same), sl__law_same⟩)
    (c__law_same : PySem.W.codeIn K cd__law_same "_law_same" = true)
    (k__law_same : PySem.W.keepIn K (.ref f__law_same) = true)
    (a__law_power : PySem.W.nsIn K mainGlobals "_law_power" = some (some (.ref f__law_power)))
    (l__law_power : K.lookup f__law_power = some ⟨oc__law_power, od__law_power, .func (PySem.W.fnOf "_law_power" "_law_power" (defArgs s__law_power) (defBody s__law_power) (defScope s__law_power) .none kV__law_power dc__law_power pm__law_power an__law_power cd__law_power ct__law_power), sl__law_power⟩)
    (c__law_power : PySem.W.codeIn K cd__law_power "_law_power" = true)
    (k__law_power : PySem.W.keepIn K (.ref f__law_power) = true)
    (a__law_own : PySem.W.nsIn K mainGlobals "_law_own" = some (some (.ref f__law_own)))
    (l__law_own : K.lookup f__law_own = some ⟨oc__law_own, od__law_own, .func (PySem.W.fnOf "_law_own" "_law_own" (defArgs s__law_own) (defBody s__law_own) (defScope s__law_own) .none kV__law_own dc__law_own pm__law_own an__law_own cd__law_own ct__law_own), sl__law_own⟩)
    (c__law_own : PySem.W.codeIn K cd__law_own "_law_own" = true)
    (k__law_own : PySem.W.keepIn K (.ref f__law_own) = true)
    (a__law_fraction : PySem.W.nsIn K mainGlobals "_law_fraction" = some (some (.ref f__law_fraction)))
    (l__law_fraction : K.lookup f__law_fraction = some ⟨oc__law_fraction, od__law_fraction, .func (PySem.W.fnOf "_law_fraction" "_law_fraction" (defArgs s__law_fraction) (defBody s__law_fraction) (defScope s__law_fraction) .none kV__law_fraction dc__law_fraction pm__law_fraction an__law_fraction cd__law_fraction ct__law_fraction), sl__law_fraction⟩)
    (c__law_fraction : PySem.W.codeIn K cd__law_fraction "_law_fraction" = true)
    (k__law_fraction : PySem.W.keepIn K (.ref f__law_fraction) = true)
    (a__law_both : PySem.W.nsIn K mainGlobals "_law_both" = some (some (.ref f__law_both)))
    (l__law_both : K.lookup f__law_both = some ⟨oc__law_both, od__law_both, .func (PySem.W.fnOf "_law_both" "_law_both" (defArgs s__law_both) (defBody s__law_both) (defScope s__law_both) .none kV__law_both dc__law_both pm__law_both an__law_both cd__law_both ct__law_both), sl__law_both⟩)
    (c__law_both : PySem.W.codeIn K cd__law_both "_law_both" = true)
    (k__law_both : PySem.W.keepIn K (.ref f__law_both) = true)
    (a__law_squares : PySem.W.nsIn K mainGlobals "_law_squares" = some (some (.ref f__law_squares)))
    (l__law_squares : K.lookup f__law_squares = some ⟨oc__law_squares, od__law_squares, .func (PySem.W.fnOf "_law_squares" "_law_squares" (defArgs s__law_squares) (defBody s__law_squares) (defScope s__law_squares) .none kV__law_squares dc__law_squares pm__law_squares an__law_squares cd__law_squares ct__law_squares), sl__law_squares⟩)
    (c__law_squares : PySem.W.codeIn K cd__law_squares "_law_squares" = true)
    (k__law_squares : PySem.W.keepIn K (.ref f__law_squares) = true)
    (a__law_halves : PySem.W.nsIn K mainGlobals "_law_halves" = some (some (.ref f__law_halves)))
    (l__law_halves : K.lookup f__law_halves = some ⟨oc__law_halves, od__law_halves, .func (PySem.W.fnOf "_law_halves" "_law_halves" (defArgs s__law_halves) (defBody s__law_halves) (defScope s__law_halves) .none kV__law_halves dc__law_halves pm__law_halves an__law_halves cd__law_halves ct__law_halves), sl__law_halves⟩)
    (c__law_halves : PySem.W.codeIn K cd__law_halves "_law_halves" = true)
    (k__law_halves : PySem.W.keepIn K (.ref f__law_halves) = true)
    (a__law_refused : PySem.W.nsIn K mainGlobals "_law_refused" = some (some (.ref f__law_refused)))
    (l__law_refused : K.lookup f__law_refused = some ⟨oc__law_refused, od__law_refused, .func (PySem.W.fnOf "_law_refused" "_law_refused" (defArgs s__law_refused) (defBody s__law_refused) (defScope s__law_refused) .none kV__law_refused dc__law_refused pm__law_refused an__law_refused cd__law_refused ct__law_refused), sl__law_refused⟩)
    (c__law_refused : PySem.W.codeIn K cd__law_refused "_law_refused" = true)
    (k__law_refused : PySem.W.keepIn K (.ref f__law_refused) = true)
    (a_law : PySem.W.nsIn K mainGlobals "law" = some (some (.ref f_law)))
    (l_law : K.lookup f_law = some ⟨oc_law, od_law, .func (PySem.W.fnOf "law" "law" (defArgs s_law) (defBody s_law) (defScope s_law) .none kV_law dc_law pm_law an_law cd_law ct_law), sl_law⟩)
    (c_law : PySem.W.codeIn K cd_law "law" = true)
    (k_law : PySem.W.keepIn K (.ref f_law) = true)
    (z_abs : PySem.W.nsIn K mainGlobals "abs" = some none)
    (z_len : PySem.W.nsIn K mainGlobals "len" = some none)
    (z_min : PySem.W.nsIn K mainGlobals "min" = some none)
    (z_int : PySem.W.nsIn K mainGlobals "int" = some none)
    (z_bool : PySem.W.nsIn K mainGlobals "bool" = some none)
    (z_range : PySem.W.nsIn K mainGlobals "range" = some none)
    (z_isinstance : PySem.W.nsIn K mainGlobals "isinstance" = some none)
    (v_gcd : PySem.W.nsIn K mainGlobals "gcd" = some (some (.builtin "math.gcd")))
    (v_MOST_ROUNDS : PySem.W.nsIn K mainGlobals "MOST_ROUNDS" = some (some (.int 100 tk_MOST_ROUNDS))) :
    ∃ fd : FuncData, (∀ (s : Shared) (v : Value), BindsTo s fd ⟨[v], []⟩ [("script", v)]) ∧ ∀ base : Heap, K.In base → base.Ns mainGlobals mg → FnOk l.prog w K mg base (L2N.CX l.prog w) 6 fa fd ["script"] (spD 1 (S_law K)) := by
  have e := hfa.symm.trans (PySem.W.mg_of X Gn a_law)
  cases e
  have cls : Cls K C_Ratio := ⟨pg_Ratio, hd_Ratio, po_Ratio, sa_Ratio⟩
  have R : RatC K C_Ratio := ⟨⟨cls, ha_Ratio, gs, gt, mo_Ratio⟩, no_top_Ratio, no_bottom_Ratio⟩
  have ox : OexC K C_OutOfBounds := ⟨⟨_, _, _, _, _, _, _, _, _, _, _, _, _, _, _, l_OutOfBounds, rf_OutOfBounds⟩, sa_OutOfBounds, ex_OutOfBounds, ty_OutOfBounds, kc_OutOfBounds⟩
  have F_first_kind := fun_mk (st := s_first_kind) l_first_kind c_first_kind k_first_kind
  have b_first_kind := F_first_kind.binds (ps := ["value", "many"]) fun _ _ _ _ _ _ us hl => match us, hl with | [_, _], _ => rfl
  have F_second_kind := fun_mk (st := s_second_kind) l_second_kind c_second_kind k_second_kind
  have b_second_kind := F_second_kind.binds (ps := ["value", "many"]) fun _ _ _ _ _ _ us hl => match us, hl with | [_, _], _ => rfl
  have F__of_degree := fun_mk (st := s__of_degree) l__of_degree c__of_degree k__of_degree
  have b__of_degree := F__of_degree.binds (ps := ["value", "top", "many"]) fun _ _ _ _ _ _ us hl => match us, hl with | [_, _, _], _ => rfl
  have F__law_pot := fun_mk (st := s__law_pot) l__law_pot c__law_pot k__law_pot
  have b__law_pot := F__law_pot.binds (ps := ["script"]) fun _ _ _ _ _ _ us hl => match us, hl with | [_], _ => rfl
  have F__law_digit := fun_mk (st := s__law_digit) l__law_digit c__law_digit k__law_digit
  have b__law_digit := F__law_digit.binds (ps := ["pot", "many"]) fun _ _ _ _ _ _ us hl => match us, hl with | [_, _], _ => rfl
  have F__law_whole := fun_mk (st := s__law_whole) l__law_whole c__law_whole k__law_whole
  have b__law_whole := F__law_whole.binds (ps := ["value"]) fun _ _ _ _ _ _ us hl => match us, hl with | [_], _ => rfl
  have F__law_common := fun_mk (st := s__law_common) l__law_common c__law_common k__law_common
  have b__law_common := F__law_common.binds (ps := ["one", "two"]) fun _ _ _ _ _ _ us hl => match us, hl with | [_, _], _ => rfl
  have F__law_told := fun_mk (st := s__law_told) l__law_told c__law_told k__law_told
  have b__law_told := F__law_told.binds (ps := ["value"]) fun _ _ _ _ _ _ us hl => match us, hl with | [_], _ => rfl
  have F__law_same := fun_mk (st := s__law_same) l__law_same c__law_same k__law_same
  have b__law_same := F__law_same.binds (ps := ["told", "pair"]) fun _ _ _ _ _ _ us hl => match us, hl with | [_, _], _ => rfl
  have F__law_power := fun_mk (st := s__law_power) l__law_power c__law_power k__law_power
  have b__law_power := F__law_power.binds (ps := ["number", "many"]) fun _ _ _ _ _ _ us hl => match us, hl with | [_, _], _ => rfl
  have F__law_own := fun_mk (st := s__law_own) l__law_own c__law_own k__law_own
  have b__law_own := F__law_own.binds (ps := ["pair", "many"]) fun _ _ _ _ _ _ us hl => match us, hl with | [_, _], _ => rfl
  have F__law_fraction := fun_mk (st := s__law_fraction) l__law_fraction c__law_fraction k__law_fraction
  have b__law_fraction := F__law_fraction.binds (ps := ["pot"]) fun _ _ _ _ _ _ us hl => match us, hl with | [_], _ => rfl
  have F__law_both := fun_mk (st := s__law_both) l__law_both c__law_both k__law_both
  have b__law_both := F__law_both.binds (ps := ["pair", "many"]) fun _ _ _ _ _ _ us hl => match us, hl with | [_, _], _ => rfl
  have F__law_squares := fun_mk (st := s__law_squares) l__law_squares c__law_squares k__law_squares
  have b__law_squares := F__law_squares.binds (ps := ["pair", "many"]) fun _ _ _ _ _ _ us hl => match us, hl with | [_, _], _ => rfl
  have F__law_halves := fun_mk (st := s__law_halves) l__law_halves c__law_halves k__law_halves
  have b__law_halves := F__law_halves.binds (ps := ["pair", "many"]) fun _ _ _ _ _ _ us hl => match us, hl with | [_, _], _ => rfl
  have F__law_refused := fun_mk (st := s__law_refused) l__law_refused c__law_refused k__law_refused
  have b__law_refused := F__law_refused.binds (ps := ["kind", "value", "many"]) fun _ _ _ _ _ _ us hl => match us, hl with | [_, _, _], _ => rfl
  have F_law := fun_mk (st := s_law) l_law c_law k_law
  have b_law := F_law.binds (ps := ["script"]) fun _ _ _ _ _ _ us hl => match us, hl with | [_], _ => rfl
  have F_OutOfBounds___init__ := fun_mk (st := s_OutOfBounds___init__) l_OutOfBounds___init__ c_OutOfBounds___init__ k_OutOfBounds___init__
  have b_OutOfBounds___init__ := F_OutOfBounds___init__.binds (ps := ["self", "value"]) fun _ _ _ _ _ _ us hl => match us, hl with | [_, _], _ => rfl
  have FR : FunW K "__init__" "Ratio.__init__" s_Ratio___init__ [V.int 1] f_Ratio___init__ _ := ⟨⟨_, _, _, _, _, _, _, _, _, _, rfl, l_Ratio___init__, c_Ratio___init__, .inr ⟨by simp, _, _, _, _, rfl, lT_Ratio___init__, rfl, .cons ⟨_, rfl⟩ .nil⟩, .inl rfl⟩, k_Ratio___init__⟩
  obtain ⟨ds, hds, bR⟩ := FR.binds1 (ps := ["self", "top", "bottom"]) 3 1 (by simp) rfl fun T kV doc pm an cdv ct us its hl hl2 => match us, its, hl, hl2 with
    | [a, b, c], [e], _, _ => ⟨_, rfl, rfl⟩
  have ed : ds = [] := by
    cases hds
    rfl
  subst ed
  refine ⟨PySem.W.fnOf "law" "law" (defArgs s_law) (defBody s_law) (defScope s_law) .none kV_law dc_law pm_law an_law cd_law ct_law, fun s v => .of_eq rfl, fun base _ _ => ?_⟩
  have T : Txt ⟨l.prog, w, K, mg, base⟩ C_Ratio C_OutOfBounds := {
    n_abs := PySem.W.mg_none_of X Gn z_abs, n_len := PySem.W.mg_none_of X Gn z_len, n_min := PySem.W.mg_none_of X Gn z_min, n_int := PySem.W.mg_none_of X Gn z_int, n_bool := PySem.W.mg_none_of X Gn z_bool, n_range := PySem.W.mg_none_of X Gn z_range, n_isinstance := PySem.W.mg_none_of X Gn z_isinstance,
    mg_gcd := PySem.W.mg_of X Gn v_gcd, mg_Ratio := PySem.W.mg_of X Gn a_Ratio, R := R, gc_MOST_ROUNDS := ⟨_, PySem.W.mg_of X Gn v_MOST_ROUNDS, ⟨_, rfl⟩⟩, kRR := kit_self, mg_OutOfBounds := PySem.W.mg_of X Gn a_OutOfBounds }
  have TE : TxE ⟨l.prog, w, K, mg, base⟩ C_OutOfBounds := ⟨⟨ga_OutOfBounds, gg_OutOfBounds, ex_OutOfBounds, hd_OutOfBounds⟩, no_value_OutOfBounds, exm_self ex_OutOfBounds is_OutOfBounds ty_OutOfBounds su_OutOfBounds⟩
  have kR : Mak ⟨l.prog, w, K, mg, base⟩ 1 "Ratio" C_Ratio 3 (S_init C_Ratio) [] := ⟨⟨f_Ratio___init__, ok_init T FR bR .nil rfl, ⟨mk_Ratio, a_Ratio___init__, i_Ratio___init__, kc_Ratio⟩⟩, T.mg_Ratio⟩
  have xO : Exc ⟨l.prog, w, K, mg, base⟩ "OutOfBounds" C_OutOfBounds ["value"] := ⟨⟨f_OutOfBounds___init__, _, _, ok_oob ox no_value_OutOfBounds F_OutOfBounds___init__, b_OutOfBounds___init__, a_OutOfBounds___init__, i_OutOfBounds___init__⟩, ox, T.mg_OutOfBounds⟩
  have c1 : Cal ⟨l.prog, w, K, mg, base⟩ _ "_law_pot" _ _ [] := ⟨⟨_, ok_pot T F__law_pot b__law_pot, PySem.W.mg_of X Gn a__law_pot, k__law_pot⟩⟩
  have c2 : Cal ⟨l.prog, w, K, mg, base⟩ _ "_law_digit" _ _ [] := ⟨⟨_, ok_digit T F__law_digit b__law_digit, PySem.W.mg_of X Gn a__law_digit, k__law_digit⟩⟩
  have c3 : Cal ⟨l.prog, w, K, mg, base⟩ _ "_law_whole" _ _ [] := ⟨⟨_, ok_whole T F__law_whole b__law_whole, PySem.W.mg_of X Gn a__law_whole, k__law_whole⟩⟩
  have h3 := okH_whole T F__law_whole (PySem.W.mg_of X Gn a__law_whole) b__law_whole
  have c4 : Cal ⟨l.prog, w, K, mg, base⟩ _ "_law_common" _ _ [] := ⟨⟨_, ok_common T F__law_common b__law_common, PySem.W.mg_of X Gn a__law_common, k__law_common⟩⟩
  have c5 : Cal ⟨l.prog, w, K, mg, base⟩ _ "_law_told" _ _ [] := ⟨⟨_, ok_told T c3 c4 F__law_told b__law_told, PySem.W.mg_of X Gn a__law_told, k__law_told⟩⟩
  have c6 : Cal ⟨l.prog, w, K, mg, base⟩ _ "_law_same" _ _ [] := ⟨⟨_, ok_same T F__law_same b__law_same, PySem.W.mg_of X Gn a__law_same, k__law_same⟩⟩
  have c7 : Cal ⟨l.prog, w, K, mg, base⟩ _ "_law_power" _ _ [] := ⟨⟨_, ok_power T F__law_power b__law_power, PySem.W.mg_of X Gn a__law_power, k__law_power⟩⟩
  have c8 : Cal ⟨l.prog, w, K, mg, base⟩ _ "_law_own" _ _ [] := ⟨⟨_, ok_own T c7 F__law_own b__law_own, PySem.W.mg_of X Gn a__law_own, k__law_own⟩⟩
  have c9 : Cal ⟨l.prog, w, K, mg, base⟩ _ "_of_degree" _ _ [] := ⟨⟨_, ok_deg T kR F__of_degree b__of_degree, PySem.W.mg_of X Gn a__of_degree, k__of_degree⟩⟩
  have c10 : Cal ⟨l.prog, w, K, mg, base⟩ _ "first_kind" _ _ [] := ⟨⟨_, ok_first T xO c9 F_first_kind b_first_kind, PySem.W.mg_of X Gn a_first_kind, k_first_kind⟩⟩
  have c11 : Cal ⟨l.prog, w, K, mg, base⟩ _ "second_kind" _ _ [] := ⟨⟨_, ok_second T xO c9 F_second_kind b_second_kind, PySem.W.mg_of X Gn a_second_kind, k_second_kind⟩⟩
  have c12 : Cal ⟨l.prog, w, K, mg, base⟩ _ "_law_fraction" _ _ [] := ⟨⟨_, ok_fraction T c2 F__law_fraction b__law_fraction, PySem.W.mg_of X Gn a__law_fraction, k__law_fraction⟩⟩
  have c13 : Cal ⟨l.prog, w, K, mg, base⟩ _ "_law_both" _ _ [] := ⟨⟨_, ok_both T kR c10 c11 c5 c8 c6 F__law_both b__law_both, PySem.W.mg_of X Gn a__law_both, k__law_both⟩⟩
  have c14 : Cal ⟨l.prog, w, K, mg, base⟩ _ "_law_squares" _ _ [] := ⟨⟨_, ok_squares T kR c10 c11 c5 F__law_squares b__law_squares, PySem.W.mg_of X Gn a__law_squares, k__law_squares⟩⟩
  have c15 : Cal ⟨l.prog, w, K, mg, base⟩ _ "_law_halves" _ _ [] := ⟨⟨_, ok_halves T kR c10 c5 c7 c6 F__law_halves b__law_halves, PySem.W.mg_of X Gn a__law_halves, k__law_halves⟩⟩
  have c16 : Cal ⟨l.prog, w, K, mg, base⟩ _ "_law_refused" _ _ [] := ⟨⟨_, ok_refused T TE h3 c10 c11 F__law_refused b__law_refused, PySem.W.mg_of X Gn a__law_refused, k__law_refused⟩⟩
  exact ok_law T kR c1 c2 c12 c13 c14 c15 c16 F_law
end K52
set_option Elab.async false
set_option linter.all false
/-
{C_Ratio : Addr} {C_OutOfBounds N_e_OutOfBounds : Addr} {nm_OutOfBounds q_OutOfBounds : Str} {bs_OutOfBounds bm_OutOfBounds sn_OutOfBounds : _} {sub_OutOfBounds ab_OutOfBounds col_OutOfBounds dd_OutOfBounds m0_OutOfBounds m1_OutOfBounds m2_OutOfBounds m3_OutOfBounds m5_OutOfBounds : _} {f_Ratio___init__ : Addr} {od_Ratio___init__ an_Ratio___init__ : Option Addr} {sl_Ratio___init__ : Array (Option Value)} {oc_Ratio___init__ kV_Ratio___init__ dc_Ratio___init__ pm_Ratio___init__ cd_Ratio___init__ ct_Ratio___init__ : Value} {T_Ratio___init__ : Addr} {tk_Ratio___init__ : Tok} {oT_Ratio___init__ : Option Addr} {nT_Ratio___init__ : Nat} {sT_Ratio___init__ : Array (Option Value)} {cT_Ratio___init__ : Value} {f_OutOfBounds___init__ : Addr} {od_OutOfBounds___init__ an_OutOfBounds___init__ : Option Addr} {sl_OutOfBounds___init__ : Array (Option Value)} {oc_OutOfBounds___init__ kV_OutOfBounds___init__ dc_OutOfBounds___init__ pm_OutOfBounds___init__ cd_OutOfBounds___init__ ct_OutOfBounds___init__ : Value} {f_first_kind : Addr} {od_first_kind an_first_kind : Option Addr} {sl_first_kind : Array (Option Value)} {oc_first_kind kV_first_kind dc_first_kind pm_first_kind cd_first_kind ct_first_kind : Value} {f_second_kind : Addr} {od_second_kind an_second_kind : Option Addr} {sl_second_kind : Array (Option Value)} {oc_second_kind kV_second_kind dc_second_kind pm_second_kind cd_second_kind ct_second_kind : Value} {f__of_degree : Addr} {od__of_degree an__of_degree : Option Addr} {sl__of_degree : Array (Option Value)} {oc__of_degree kV__of_degree dc__of_degree pm__of_degree cd__of_degree ct__of_degree : Value} {f__law_pot : Addr} {od__law_pot an__law_pot : Option Addr} {sl__law_pot : Array (Option Value)} {oc__law_pot kV__law_pot dc__law_pot pm__law_pot cd__law_pot ct__law_pot : Value} {f__law_digit : Addr} {od__law_digit an__law_digit : Option Addr} {sl__law_digit : Array (Option Value)} {oc__law_digit kV__law_digit dc__law_digit pm__law_digit cd__law_digit ct__law_digit : Value} {f__law_whole : Addr} {od__law_whole an__law_whole : Option Addr} {sl__law_whole : Array (Option Value)} {oc__law_whole kV__law_whole dc__law_whole pm__law_whole cd__law_whole ct__law_whole : Value} {f__law_common : Addr} {od__law_common an__law_common : Option Addr} {sl__law_common : Array (Option Value)} {oc__law_common kV__law_common dc__law_common pm__law_common cd__law_common ct__law_common : Value} {f__law_told : Addr} {od__law_told an__law_told : Option Addr} {sl__law_told : Array (Option Value)} {oc__law_told kV__law_told dc__law_told pm__law_told cd__law_told ct__law_told : Value} {f__law_same : Addr} {od__law_same an__law_same : Option Addr} {sl__law_same : Array (Option Value)} {oc__law_same kV__law_same dc__law_same pm__law_same cd__law_same ct__law_same : Value} {f__law_power : Addr} {od__law_power an__law_power : Option Addr} {sl__law_power : Array (Option Value)} {oc__law_power kV__law_power dc__law_power pm__law_power cd__law_power ct__law_power : Value} {f__law_own : Addr} {od__law_own an__law_own : Option Addr} {sl__law_own : Array (Option Value)} {oc__law_own kV__law_own dc__law_own pm__law_own cd__law_own ct__law_own : Value} {f__law_fraction : Addr} {od__law_fraction an__law_fraction : Option Addr} {sl__law_fraction : Array (Option Value)} {oc__law_fraction kV__law_fraction dc__law_fraction pm__law_fraction cd__law_fraction ct__law_fraction : Value} {f__law_both : Addr} {od__law_both an__law_both : Option Addr} {sl__law_both : Array (Option Value)} {oc__law_both kV__law_both dc__law_both pm__law_both cd__law_both ct__law_both : Value} {f__law_squares : Addr} {od__law_squares an__law_squares : Option Addr} {sl__law_squares : Array (Option Value)} {oc__law_squares kV__law_squares dc__law_squares pm__law_squares cd__law_squares ct__law_squares : Value} {f__law_halves : Addr} {od__law_halves an__law_halves : Option Addr} {sl__law_halves : Array (Option Value)} {oc__law_halves kV__law_halves dc__law_halves pm__law_halves cd__law_halves ct__law_halves : Value} {f__law_refused : Addr} {od__law_refused an__law_refused : Option Addr} {sl__law_refused : Array (Option Value)} {oc__law_refused kV__law_refused dc__law_refused pm__law_refused cd__law_refused ct__law_refused : Value} {f_law : Addr} {od_law an_law : Option Addr} {sl_law : Array (Option Value)} {oc_law kV_law dc_law pm_law cd_law ct_law : Value} {tk_MOST_ROUNDS : Tok}
    (a_Ratio : PySem.W.nsIn K mainGlobals "Ratio" = some (some (.ref C_Ratio)))
    (pg_Ratio : PySem.W.plainGet K C_Ratio Str.empty = true)
    (hd_Ratio : PySem.W.hasDictIn K C_Ratio = true)
    (po_Ratio : PySem.W.plainOver K C_Ratio = true)
    (sa_Ratio : PySem.W.findIn K (.ref C_Ratio) "__setattr__" = some (some (.builtin "object.__setattr__")))
    (mk_Ratio : PySem.W.makesIn K C_Ratio = true)
    (kc_Ratio : PySem.W.keepIn K (.ref C_Ratio) = true)
    (ha_Ratio : PySem.W.findIn K (.ref C_Ratio) "__class__" = some (some (.builtin "object.__class__")))
    (mo_Ratio : PySem.W.mroIn K C_Ratio (.type "object") = some true)
    (no_top_Ratio : PySem.W.findIn K (.ref C_Ratio) "top" = some none)
    (no_bottom_Ratio : PySem.W.findIn K (.ref C_Ratio) "bottom" = some none)
    (a_OutOfBounds : PySem.W.nsIn K mainGlobals "OutOfBounds" = some (some (.ref C_OutOfBounds)))
    (l_OutOfBounds : K.lookup C_OutOfBounds = some (excClassObj nm_OutOfBounds q_OutOfBounds C_OutOfBounds N_e_OutOfBounds bs_OutOfBounds bm_OutOfBounds true sn_OutOfBounds sub_OutOfBounds ab_OutOfBounds col_OutOfBounds dd_OutOfBounds m0_OutOfBounds m1_OutOfBounds m2_OutOfBounds m3_OutOfBounds m5_OutOfBounds "ValueError.__new__"))
    (rf_OutOfBounds : PySem.HandSPX.refsVE bm_OutOfBounds = true)
    (sa_OutOfBounds : PySem.W.findIn K (.ref C_OutOfBounds) "__setattr__" = some (some (.builtin "object.__setattr__")))
    (ex_OutOfBounds : PySem.W.subIn K (.ref C_OutOfBounds) (.type "BaseException") = some true)
    (ty_OutOfBounds : PySem.W.typeIn K (.ref C_OutOfBounds) = some (.type "type"))
    (kc_OutOfBounds : PySem.W.keepIn K (.ref C_OutOfBounds) = true)
    (ga_OutOfBounds : PySem.W.findIn K (.ref C_OutOfBounds) "__getattribute__" = some (some (.builtin "BaseException.__getattribute__")))
    (gg_OutOfBounds : PySem.W.findIn K (.ref C_OutOfBounds) "__getattr__" = some none)
    (hd_OutOfBounds : PySem.W.hasDictIn K C_OutOfBounds = true)
    (is_OutOfBounds : PySem.W.isClsIn K C_OutOfBounds = true)
    (su_OutOfBounds : PySem.W.subIn K (.ref C_OutOfBounds) (.ref C_OutOfBounds) = some true)
    (no_value_OutOfBounds : PySem.W.findIn K (.ref C_OutOfBounds) "value" = some none)
    (gs : PySem.W.specialIn K (.builtin "object.__class__") "__get__" = some (some (.builtin "getset_descriptor.__get__")))
    (gt : PySem.W.takesIn K (.builtin "object.__class__") = some true)
    (a_Ratio___init__ : PySem.W.findIn K (.ref C_Ratio) "__init__" = some (some (.ref f_Ratio___init__)))
    (i_Ratio___init__ : PySem.W.isFn K (.ref f_Ratio___init__) = true)
    (l_Ratio___init__ : K.lookup f_Ratio___init__ = some ⟨oc_Ratio___init__, od_Ratio___init__, .func (PySem.W.fnOf "__init__" "Ratio.__init__" (defArgs s_Ratio___init__) (defBody s_Ratio___init__) (defScope s_Ratio___init__) (.ref T_Ratio___init__) kV_Ratio___init__ dc_Ratio___init__ pm_Ratio___init__ an_Ratio___init__ cd_Ratio___init__ ct_Ratio___init__), sl_Ratio___init__⟩)
    (lT_Ratio___init__ : K.lookup T_Ratio___init__ = some ⟨cT_Ratio___init__, oT_Ratio___init__, .seq [Value.int 1 tk_Ratio___init__].toArray nT_Ratio___init__, sT_Ratio___init__⟩)
    (c_Ratio___init__ : PySem.W.codeIn K cd_Ratio___init__ "Ratio.__init__" = true)
    (k_Ratio___init__ : PySem.W.keepIn K (.ref f_Ratio___init__) = true)
    (a_OutOfBounds___init__ : PySem.W.findIn K (.ref C_OutOfBounds) "__init__" = some (some (.ref f_OutOfBounds___init__)))
    (i_OutOfBounds___init__ : PySem.W.typeIn K (.ref f_OutOfBounds___init__) = some (.type "function"))
    (l_OutOfBounds___init__ : K.lookup f_OutOfBounds___init__ = some ⟨oc_OutOfBounds___init__, od_OutOfBounds___init__, .func (PySem.W.fnOf "__init__" "OutOfBounds.__init__" (defArgs s_OutOfBounds___init__) (defBody s_OutOfBounds___init__) (defScope s_OutOfBounds___init__) .none kV_OutOfBounds___init__ dc_OutOfBounds___init__ pm_OutOfBounds___init__ an_OutOfBounds___init__ cd_OutOfBounds___init__ ct_OutOfBounds___init__), sl_OutOfBounds___init__⟩)
    (c_OutOfBounds___init__ : PySem.W.codeIn K cd_OutOfBounds___init__ "OutOfBounds.__init__" = true)
    (k_OutOfBounds___init__ : PySem.W.keepIn K (.ref f_OutOfBounds___init__) = true)
    (a_first_kind : PySem.W.nsIn K mainGlobals "first_kind" = some (some (.ref f_first_kind)))
    (l_first_kind : K.lookup f_first_kind = some ⟨oc_first_kind, od_first_kind, .func (PySem.W.fnOf "first_kind" "first_kind" (defArgs s_first_kind) (defBody s_first_kind) (defScope s_first_kind) .none kV_first_kind dc_first_kind pm_first_kind an_first_kind cd_first_kind ct_first_kind), sl_first_kind⟩)
    (c_first_kind : PySem.W.codeIn K cd_first_kind "first_kind" = true)
    (k_first_kind : PySem.W.keepIn K (.ref f_first_kind) = true)
    (a_second_kind : PySem.W.nsIn K mainGlobals "second_kind" = some (some (.ref f_second_kind)))
    (l_second_kind : K.lookup f_second_kind = some ⟨oc_second_kind, od_second_kind, .func (PySem.W.fnOf "second_kind" "second_kind" (defArgs s_second_kind) (defBody s_second_kind) (defScope s_second_kind) .none kV_second_kind dc_second_kind pm_second_kind an_second_kind cd_second_kind ct_second_kind), sl_second_kind⟩)
    (c_second_kind : PySem.W.codeIn K cd_second_kind "second_kind" = true)
    (k_second_kind : PySem.W.keepIn K (.ref f_second_kind) = true)
    (a__of_degree : PySem.W.nsIn K mainGlobals "_of_degree" = some (some (.ref f__of_degree)))
    (l__of_degree : K.lookup f__of_degree = some ⟨oc__of_degree, od__of_degree, .func (PySem.W.fnOf "_of_degree" "_of_degree" (defArgs s__of_degree) (defBody s__of_degree) (defScope s__of_degree) .none kV__of_degree dc__of_degree pm__of_degree an__of_degree cd__of_degree ct__of_degree), sl__of_degree⟩)
    (c__of_degree : PySem.W.codeIn K cd__of_degree "_of_degree" = true)
    (k__of_degree : PySem.W.keepIn K (.ref f__of_degree) = true)
    (a__law_pot : PySem.W.nsIn K mainGlobals "_law_pot" = some (some (.ref f__law_pot)))
    (l__law_pot : K.lookup f__law_pot = some ⟨oc__law_pot, od__law_pot, .func (PySem.W.fnOf "_law_pot" "_law_pot" (defArgs s__law_pot) (defBody s__law_pot) (defScope s__law_pot) .none kV__law_pot dc__law_pot pm__law_pot an__law_pot cd__law_pot ct__law_pot), sl__law_pot⟩)
    (c__law_pot : PySem.W.codeIn K cd__law_pot "_law_pot" = true)
    (k__law_pot : PySem.W.keepIn K (.ref f__law_pot) = true)
    (a__law_digit : PySem.W.nsIn K mainGlobals "_law_digit" = some (some (.ref f__law_digit)))
    (l__law_digit : K.lookup f__law_digit = some ⟨oc__law_digit, od__law_digit, .func (PySem.W.fnOf "_law_digit" "_law_digit" (defArgs s__law_digit) (defBody s__law_digit) (defScope s__law_digit) .none kV__law_digit dc__law_digit pm__law_digit an__law_digit cd__law_digit ct__law_digit), sl__law_digit⟩)
    (c__law_digit : PySem.W.codeIn K cd__law_digit "_law_digit" = true)
    (k__law_digit : PySem.W.keepIn K (.ref f__law_digit) = true)
    (a__law_whole : PySem.W.nsIn K mainGlobals "_law_whole" = some (some (.ref f__law_whole)))
    (l__law_whole : K.lookup f__law_whole = some ⟨oc__law_whole, od__law_whole, .func (PySem.W.fnOf "_law_whole" "_law_whole" (defArgs s__law_whole) (defBody s__law_whole) (defScope s__law_whole) .none kV__law_whole dc__law_whole pm__law_whole an__law_whole cd__law_whole ct__law_whole), sl__law_whole⟩)
    (c__law_whole : PySem.W.codeIn K cd__law_whole "_law_whole" = true)
    (k__law_whole : PySem.W.keepIn K (.ref f__law_whole) = true)
    (a__law_common : PySem.W.nsIn K mainGlobals "_law_common" = some (some (.ref f__law_common)))
    (l__law_common : K.lookup f__law_common = some ⟨oc__law_common, od__law_common, .func (PySem.W.fnOf "_law_common" "_law_common" (defArgs s__law_common) (defBody s__law_common) (defScope s__law_common) .none kV__law_common dc__law_common pm__law_common an__law_common cd__law_common ct__law_common), sl__law_common⟩)
    (c__law_common : PySem.W.codeIn K cd__law_common "_law_common" = true)
    (k__law_common : PySem.W.keepIn K (.ref f__law_common) = true)
    (a__law_told : PySem.W.nsIn K mainGlobals "_law_told" = some (some (.ref f__law_told)))
    (l__law_told : K.lookup f__law_told = some ⟨oc__law_told, od__law_told, .func (PySem.W.fnOf "_law_told" "_law_told" (defArgs s__law_told) (defBody s__law_told) (defScope s__law_told) .none kV__law_told dc__law_told pm__law_told an__law_told cd__law_told ct__law_told), sl__law_told⟩)
    (c__law_told : PySem.W.codeIn K cd__law_told "_law_told" = true)
    (k__law_told : PySem.W.keepIn K (.ref f__law_told) = true)
    (a__law_same : PySem.W.nsIn K mainGlobals "_law_same" = some (some (.ref f__law_same)))
    (l__law_same : K.lookup f__law_same = some ⟨oc__law_same, od__law_same, .func (PySem.W.fnOf "_law_same" "_law_same" (defArgs s__law_same) (defBody s__law_same) (defScope s__law_same) .none kV__law_same dc__law_same pm__law_same an__law_same cd__law_same ct__law_same), sl__law_same⟩)
    (c__law_same : PySem.W.codeIn K cd__law_same "_law_same" = true)
    (k__law_same : PySem.W.keepIn K (.ref f__law_same) = true)
    (a__law_power : PySem.W.nsIn K mainGlobals "_law_power" = some (some (.ref f__law_power)))
    (l__law_power : K.lookup f__law_power = some ⟨oc__law_power, od__law_power, .func (PySem.W.fnOf "_law_power" "_law_power" (defArgs s__law_power) (defBody s__law_power) (defScope s__law_power) .none kV__law_power dc__law_power pm__law_power an__law_power cd__law_power ct__law_power), sl__law_power⟩)
    (c__law_power : PySem.W.codeIn K cd__law_power "_law_power" = true)
    (k__law_power : PySem.W.keepIn K (.ref f__law_power) = true)
    (a__law_own : PySem.W.nsIn K mainGlobals "_law_own" = some (some (.ref f__law_own)))
    (l__law_own : K.lookup f__law_own = some ⟨oc__law_own, od__law_own, .func (PySem.W.fnOf "_law_own" "_law_own" (defArgs s__law_own) (defBody s__law_own) (defScope s__law_own) .none kV__law_own dc__law_own pm__law_own an__law_own cd__law_own ct__law_own), sl__law_own⟩)
    (c__law_own : PySem.W.codeIn K cd__law_own "_law_own" = true)
    (k__law_own : PySem.W.keepIn K (.ref f__law_own) = true)
    (a__law_fraction : PySem.W.nsIn K mainGlobals "_law_fraction" = some (some (.ref f__law_fraction)))
    (l__law_fraction : K.lookup f__law_fraction = some ⟨oc__law_fraction, od__law_fraction, .func (PySem.W.fnOf "_law_fraction" "_law_fraction" (defArgs s__law_fraction) (defBody s__law_fraction) (defScope s__law_fraction) .none kV__law_fraction dc__law_fraction pm__law_fraction an__law_fraction cd__law_fraction ct__law_fraction), sl__law_fraction⟩)
    (c__law_fraction : PySem.W.codeIn K cd__law_fraction "_law_fraction" = true)
    (k__law_fraction : PySem.W.keepIn K (.ref f__law_fraction) = true)
    (a__law_both : PySem.W.nsIn K mainGlobals "_law_both" = some (some (.ref f__law_both)))
    (l__law_both : K.lookup f__law_both = some ⟨oc__law_both, od__law_both, .func (PySem.W.fnOf "_law_both" "_law_both" (defArgs s__law_both) (defBody s__law_both) (defScope s__law_both) .none kV__law_both dc__law_both pm__law_both an__law_both cd__law_both ct__law_both), sl__law_both⟩)
    (c__law_both : PySem.W.codeIn K cd__law_both "_law_both" = true)
    (k__law_both : PySem.W.keepIn K (.ref f__law_both) = true)
    (a__law_squares : PySem.W.nsIn K mainGlobals "_law_squares" = some (some (.ref f__law_squares)))
    (l__law_squares : K.lookup f__law_squares = some ⟨oc__law_squares, od__law_squares, .func (PySem.W.fnOf "_law_squares" "_law_squares" (defArgs s__law_squares) (defBody s__law_squares) (defScope s__law_squares) .none kV__law_squares dc__law_squares pm__law_squares an__law_squares cd__law_squares ct__law_squares), sl__law_squares⟩)
    (c__law_squares : PySem.W.codeIn K cd__law_squares "_law_squares" = true)
    (k__law_squares : PySem.W.keepIn K (.ref f__law_squares) = true)
    (a__law_halves : PySem.W.nsIn K mainGlobals "_law_halves" = some (some (.ref f__law_halves)))
    (l__law_halves : K.lookup f__law_halves = some ⟨oc__law_halves, od__law_halves, .func (PySem.W.fnOf "_law_halves" "_law_halves" (defArgs s__law_halves) (defBody s__law_halves) (defScope s__law_halves) .none kV__law_halves dc__law_halves pm__law_halves an__law_halves cd__law_halves ct__law_halves), sl__law_halves⟩)
    (c__law_halves : PySem.W.codeIn K cd__law_halves "_law_halves" = true)
    (k__law_halves : PySem.W.keepIn K (.ref f__law_halves) = true)
    (a__law_refused : PySem.W.nsIn K mainGlobals "_law_refused" = some (some (.ref f__law_refused)))
    (l__law_refused : K.lookup f__law_refused = some ⟨oc__law_refused, od__law_refused, .func (PySem.W.fnOf "_law_refused" "_law_refused" (defArgs s__law_refused) (defBody s__law_refused) (defScope s__law_refused) .none kV__law_refused dc__law_refused pm__law_refused an__law_refused cd__law_refused ct__law_refused), sl__law_refused⟩)
    (c__law_refused : PySem.W.codeIn K cd__law_refused "_law_refused" = true)
    (k__law_refused : PySem.W.keepIn K (.ref f__law_refused) = true)
    (a_law : PySem.W.nsIn K mainGlobals "law" = some (some (.ref f_law)))
    (l_law : K.lookup f_law = some ⟨oc_law, od_law, .func (PySem.W.fnOf "law" "law" (defArgs s_law) (defBody s_law) (defScope s_law) .none kV_law dc_law pm_law an_law cd_law ct_law), sl_law⟩)
    (c_law : PySem.W.codeIn K cd_law "law" = true)
    (k_law : PySem.W.keepIn K (.ref f_law) = true)
    (z_abs : PySem.W.nsIn K mainGlobals "abs" = some none)
    (z_len : PySem.W.nsIn K mainGlobals "len" = some none)
    (z_min : PySem.W.nsIn K mainGlobals "min" = some none)
    (z_int : PySem.W.nsIn K mainGlobals "int" = some none)
    (z_bool : PySem.W.nsIn K mainGlobals "bool" = some none)
    (z_range : PySem.W.nsIn K mainGlobals "range" = some none)
    (z_isinstance : PySem.W.nsIn K mainGlobals "isinstance" = some none)
    (v_gcd : PySem.W.nsIn K mainGlobals "gcd" = some (some (.builtin "math.gcd")))
    (v_MOST_ROUNDS : PySem.W.nsIn K mainGlobals "MOST_ROUNDS" = some (some (.int 100 tk_MOST_ROUNDS)))
-/
open PySem PySem.W PyProof.Rows
set_option maxRecDepth 100000 in
set_option maxHeartbeats 0 in
theorem PySem.Challenge.cw_fewcarry_k52_kinds_holds : PySem.Challenge.rw_fewcarry_k52_kinds.Holds := by
  w_on; o_law; k_head; (case hw => w_witness2)
  k_fill
  refine DL.walkB (l := PySem.Challenge.rw_fewcarry_k52_kinds) (k := 6) (x := "script") rfl rfl ⟨rfl, by decide, by decide⟩ (fun w h Y => PySem.W.kIn_of Y) ?F
  case F =>
    intro w mg fa h KX G hmg
    refine' K52.all_mk KX G hmg ?a_Ratio ?pg_Ratio ?hd_Ratio ?po_Ratio ?sa_Ratio ?mk_Ratio ?kc_Ratio ?ha_Ratio ?mo_Ratio ?no_top_Ratio ?no_bottom_Ratio ?a_OutOfBounds ?l_OutOfBounds ?rf_OutOfBounds ?sa_OutOfBounds ?ex_OutOfBounds ?ty_OutOfBounds ?kc_OutOfBounds ?ga_OutOfBounds ?gg_OutOfBounds ?hd_OutOfBounds ?is_OutOfBounds ?su_OutOfBounds ?no_value_OutOfBounds ?gs ?gt ?a_Ratio___init__ ?i_Ratio___init__ ?l_Ratio___init__ ?lT_Ratio___init__ ?c_Ratio___init__ ?k_Ratio___init__ ?a_OutOfBounds___init__ ?i_OutOfBounds___init__ ?l_OutOfBounds___init__ ?c_OutOfBounds___init__ ?k_OutOfBounds___init__ ?a_first_kind ?l_first_kind ?c_first_kind ?k_first_kind ?a_second_kind ?l_second_kind ?c_second_kind ?k_second_kind ?a__of_degree ?l__of_degree ?c__of_degree ?k__of_degree ?a__law_pot ?l__law_pot ?c__law_pot ?k__law_pot ?a__law_digit ?l__law_digit ?c__law_digit ?k__law_digit ?a__law_whole ?l__law_whole ?c__law_whole ?k__law_whole ?a__law_common ?l__law_common ?c__law_common ?k__law_common ?a__law_told ?l__law_told ?c__law_told ?k__law_told ?a__law_same ?l__law_same ?c__law_same ?k__law_same ?a__law_power ?l__law_power ?c__law_power ?k__law_power ?a__law_own ?l__law_own ?c__law_own ?k__law_own ?a__law_fraction ?l__law_fraction ?c__law_fraction ?k__law_fraction ?a__law_both ?l__law_both ?c__law_both ?k__law_both ?a__law_squares ?l__law_squares ?c__law_squares ?k__law_squares ?a__law_halves ?l__law_halves ?c__law_halves ?k__law_halves ?a__law_refused ?l__law_refused ?c__law_refused ?k__law_refused ?a_law ?l_law ?c_law ?k_law ?z_abs ?z_len ?z_min ?z_int ?z_bool ?z_range ?z_isinstance ?v_gcd ?v_MOST_ROUNDS
    (case a_Ratio => k_is)
    (case pg_Ratio => k_is)
    (case hd_Ratio => k_is)
    (case po_Ratio => k_is)
    (case sa_Ratio => k_is)
    (case mk_Ratio => k_is)
    (case kc_Ratio => k_is)
    (case ha_Ratio => k_is)
    (case mo_Ratio => k_is)
    (case no_top_Ratio => k_is)
    (case no_bottom_Ratio => k_is)
    (case a_OutOfBounds => k_is)
    (case l_OutOfBounds => k_is)
    (case rf_OutOfBounds => decide +kernel)
    (case sa_OutOfBounds => k_is)
    (case ex_OutOfBounds => k_is)
    (case ty_OutOfBounds => k_is)
    (case kc_OutOfBounds => k_is)
    (case ga_OutOfBounds => k_is)
    (case gg_OutOfBounds => k_is)
    (case hd_OutOfBounds => k_is)
    (case is_OutOfBounds => k_is)
    (case su_OutOfBounds => k_is)
    (case no_value_OutOfBounds => k_is)
    (case gs => k_is)
    (case gt => k_is)
    (case a_Ratio___init__ => k_is)
    (case i_Ratio___init__ => k_is)
    (case l_Ratio___init__ => k_is)
    (case lT_Ratio___init__ => k_is)
    (case c_Ratio___init__ => k_is)
    (case k_Ratio___init__ => k_is)
    (case a_OutOfBounds___init__ => k_is)
    (case i_OutOfBounds___init__ => k_is)
    (case l_OutOfBounds___init__ => k_is)
    (case c_OutOfBounds___init__ => k_is)
    (case k_OutOfBounds___init__ => k_is)
    (case a_first_kind => k_is)
    (case l_first_kind => k_is)
    (case c_first_kind => k_is)
    (case k_first_kind => k_is)
    (case a_second_kind => k_is)
    (case l_second_kind => k_is)
    (case c_second_kind => k_is)
    (case k_second_kind => k_is)
    (case a__of_degree => k_is)
    (case l__of_degree => k_is)
    (case c__of_degree => k_is)
    (case k__of_degree => k_is)
    (case a__law_pot => k_is)
    (case l__law_pot => k_is)
    (case c__law_pot => k_is)
    (case k__law_pot => k_is)
    (case a__law_digit => k_is)
    (case l__law_digit => k_is)
    (case c__law_digit => k_is)
    (case k__law_digit => k_is)
    (case a__law_whole => k_is)
    (case l__law_whole => k_is)
    (case c__law_whole => k_is)
    (case k__law_whole => k_is)
    (case a__law_common => k_is)
    (case l__law_common => k_is)
    (case c__law_common => k_is)
    (case k__law_common => k_is)
    (case a__law_told => k_is)
    (case l__law_told => k_is)
    (case c__law_told => k_is)
    (case k__law_told => k_is)
    (case a__law_same => k_is)
    (case l__law_same => k_is)
    (case c__law_same => k_is)
    (case k__law_same => k_is)
    (case a__law_power => k_is)
    (case l__law_power => k_is)
    (case c__law_power => k_is)
    (case k__law_power => k_is)
    (case a__law_own => k_is)
    (case l__law_own => k_is)
    (case c__law_own => k_is)
    (case k__law_own => k_is)
    (case a__law_fraction => k_is)
    (case l__law_fraction => k_is)
    (case c__law_fraction => k_is)
    (case k__law_fraction => k_is)
    (case a__law_both => k_is)
    (case l__law_both => k_is)
    (case c__law_both => k_is)
    (case k__law_both => k_is)
    (case a__law_squares => k_is)
    (case l__law_squares => k_is)
    (case c__law_squares => k_is)
    (case k__law_squares => k_is)
    (case a__law_halves => k_is)
    (case l__law_halves => k_is)
    (case c__law_halves => k_is)
    (case k__law_halves => k_is)
    (case a__law_refused => k_is)
    (case l__law_refused => k_is)
    (case c__law_refused => k_is)
    (case k__law_refused => k_is)
    (case a_law => k_is)
    (case l_law => k_is)
    (case c_law => k_is)
    (case k_law => k_is)
    (case z_abs => k_is)
    (case z_len => k_is)
    (case z_min => k_is)
    (case z_int => k_is)
    (case z_bool => k_is)
    (case z_range => k_is)
    (case z_isinstance => k_is)
    (case v_gcd => k_is)
    (case v_MOST_ROUNDS => k_is)
