import PyProof.Rows.All
import Wide.All
import OpenK.AllK
import Wide.FinOn
import HandS.ForMost
import HandS.ForExc
import HandS.ExcInit
import HandS.CallSlots
import HandS.Wide
import HandS.Style
import HandS.IsInst
import HandS.Comp
import HandS.Gcd
import HandS.ExcCtx
import HandS.HotCalls
import HandS.Defaults
import HandS.ExcField
import HandS.EndBits
import KE.KExcIs
import HandS.ExcIs
import PySem.Challenge.RW_fewcarry_k05_span_arithmetic
set_option Elab.async false
set_option linter.all false
set_option maxRecDepth 100000
/-! DL1: values as trees (D), what lies mutable (Mu), and what a reading of the hand layer does to them. -/
namespace DL
open PySem PySem.Spec L2
open PyProof.Rows hiding St

inductive D where
  | non | bl (b : Bool) | int (i : Int) | str (x : Str) | ty (n : String) | ref (a : Addr)
  | tup (xs : List D) | lst (xs : List D) | dic (kvs : List (Key × D)) | ins (C : Addr) (ns : List Str) (ds : List D)
  /-- a caught exception: where it stands, its own dict, its class, its fields -/
  | exc (a : Addr) (dd : Option Addr) (C : Addr) (ns : List Str) (ds : List D)

/-- a mutable object that stands at an address -/
inductive MO where
  | lst (xs : List D) | dic (kvs : List (Key × D)) | ins (C : Addr) (ns : List Str) (ds : List D)
abbrev Mu := List (Addr × MO)
def dom (m : Mu) (a : Addr) : Prop := a ∈ m.map (·.1)
theorem dom_nil {a : Addr} : ¬ dom [] a := fun h => by simp [dom] at h
theorem dom_cons {m : Mu} {p : Addr × MO} {a : Addr} : dom (p :: m) a ↔ a = p.1 ∨ dom m a := by simp [dom]

mutual
inductive Rep (M : Addr → Prop) (H : Hp) : D → V → Prop
  | non : Rep M H .non .non
  | bl (b : Bool) : Rep M H (.bl b) (.bl b)
  | int (i : Int) : Rep M H (.int i) (.int i)
  | str (x : Str) : Rep M H (.str x) (.str x)
  | ty (n : String) : Rep M H (.ty n) (.ty n)
  | ref (a : Addr) : Rep M H (.ref a) (.ref a)
  | tup {a : Addr} {xs : List D} {vs : List V} (m : ¬ M a) (h : Rd H a (.tup vs)) (r : Reps M H xs vs) : Rep M H (.tup xs) (.ref a)
  | lst {a : Addr} {xs : List D} {vs : List V} (m : ¬ M a) (h : Rd H a (.lst vs)) (r : Reps M H xs vs) : Rep M H (.lst xs) (.ref a)
  | dic {a : Addr} {kvs : List (Key × D)} {kws : List (Key × V)} (m : ¬ M a) (h : H a = some (.dK kws)) (r : RepK M H kvs kws) : Rep M H (.dic kvs) (.ref a)
  | ins {a C dx : Addr} {ns : List Str} {ds : List D} {gs : List (Str × V)} (m : ¬ M a) (h : H a = some (.ins C dx gs)) (r : RepF M H ns ds gs) : Rep M H (.ins C ns ds) (.ref a)
  | excN {a C : Addr} : Rep M H (.exc a none C [] []) (.ref a)
  | excS {a d C : Addr} {ns : List Str} {ds : List D} {gs : List (Str × V)} (m : ¬ M d) (h : H d = some (.xd gs)) (r : RepF M H ns ds gs) : Rep M H (.exc a (some d) C ns ds) (.ref a)
inductive Reps (M : Addr → Prop) (H : Hp) : List D → List V → Prop
  | nil : Reps M H [] []
  | cons {d : D} {v : V} {ds : List D} {vs : List V} (r : Rep M H d v) (t : Reps M H ds vs) : Reps M H (d :: ds) (v :: vs)
inductive RepK (M : Addr → Prop) (H : Hp) : List (Key × D) → List (Key × V) → Prop
  | nil : RepK M H [] []
  | cons {k : Key} {d : D} {v : V} {ds : List (Key × D)} {vs : List (Key × V)} (r : Rep M H d v) (t : RepK M H ds vs) : RepK M H ((k, d) :: ds) ((k, v) :: vs)
inductive RepF (M : Addr → Prop) (H : Hp) : List Str → List D → List (Str × V) → Prop
  | nil : RepF M H [] [] []
  | cons {n : Str} {d : D} {v : V} {ns : List Str} {ds : List D} {vs : List (Str × V)} (r : Rep M H d v) (t : RepF M H ns ds vs) : RepF M H (n :: ns) (d :: ds) ((n, v) :: vs)
end

/-- from M, H to M', H': what was fixed is fixed and as it was -/
def Stp (M : Addr → Prop) (H : Hp) (M' : Addr → Prop) (H' : Hp) : Prop := ∀ a o, H a = some o → ¬ M a → H' a = some o ∧ ¬ M' a
theorem Stp.refl (M : Addr → Prop) (H : Hp) : Stp M H M H := fun _ _ h m => ⟨h, m⟩
theorem Stp.trans {M M1 M2 : Addr → Prop} {H H1 H2 : Hp} (a : Stp M H M1 H1) (b : Stp M1 H1 M2 H2) : Stp M H M2 H2 := fun x o h m => b x o (a x o h m).1 (a x o h m).2
theorem Stp.rd {M M' : Addr → Prop} {H H' : Hp} (s : Stp M H M' H') {a : Addr} {u : HO} (m : ¬ M a) (h : Rd H a u) : Rd H' a u ∧ ¬ M' a := by
  rcases h with h | ⟨o, h⟩
  · exact ⟨.inl (s a _ h m).1, (s a _ h m).2⟩
  · exact ⟨.inr ⟨o, (s a _ h m).1⟩, (s a _ h m).2⟩
/-- a new object is laid (fixed) -/
theorem Stp.new {M : Addr → Prop} {H : Hp} {p : Addr} {o : HO} (n : H p = none) : Stp M H M (upd H p o) := fun a u h m => ⟨by rw [upd_ne (ne_of_none h n)]; exact h, m⟩
/-- .. mutable -/
theorem Stp.newM {m : Mu} {H : Hp} {p : Addr} {o : HO} {x : MO} (n : H p = none) : Stp (dom m) H (dom ((p, x) :: m)) (upd H p o) := fun a u h k =>
  ⟨by rw [upd_ne (ne_of_none h n)]; exact h, fun z => (dom_cons.mp z).elim (ne_of_none h n) k⟩
/-- a mutable one is written -/
theorem Stp.wr {m m' : Mu} {H : Hp} {p : Addr} {o : HO} (hp : dom m p) (hd : ∀ a, dom m' a → dom m a) : Stp (dom m) H (dom m') (upd H p o) := fun a u h k =>
  ⟨by rw [upd_ne (fun e => k (by rw [e]; exact hp))]; exact h, fun z => k (hd a z)⟩
theorem Stp.less {M M' : Addr → Prop} {H : Hp} (h : ∀ a, M' a → M a) : Stp M H M' H := fun a _ e m => ⟨e, fun z => m (h a z)⟩

mutual
theorem Rep.mono {M M' : Addr → Prop} {H H' : Hp} (s : Stp M H M' H') : ∀ {d : D} {v : V}, Rep M H d v → Rep M' H' d v
  | _, _, .non => .non
  | _, _, .bl b => .bl b
  | _, _, .int i => .int i
  | _, _, .str x => .str x
  | _, _, .ty n => .ty n
  | _, _, .ref a => .ref a
  | _, _, .tup m h r => .tup (s.rd m h).2 (s.rd m h).1 (Reps.mono s r)
  | _, _, .lst m h r => .lst (s.rd m h).2 (s.rd m h).1 (Reps.mono s r)
  | _, _, .dic m h r => .dic (s _ _ h m).2 (s _ _ h m).1 (RepK.mono s r)
  | _, _, .ins m h r => .ins (s _ _ h m).2 (s _ _ h m).1 (RepF.mono s r)
  | _, _, .excN => .excN
  | _, _, .excS m h r => .excS (s _ _ h m).2 (s _ _ h m).1 (RepF.mono s r)
theorem Reps.mono {M M' : Addr → Prop} {H H' : Hp} (s : Stp M H M' H') : ∀ {d : List D} {v : List V}, Reps M H d v → Reps M' H' d v
  | _, _, .nil => .nil
  | _, _, .cons r t => .cons (Rep.mono s r) (Reps.mono s t)
theorem RepK.mono {M M' : Addr → Prop} {H H' : Hp} (s : Stp M H M' H') : ∀ {d : List (Key × D)} {v : List (Key × V)}, RepK M H d v → RepK M' H' d v
  | _, _, .nil => .nil
  | _, _, .cons r t => .cons (Rep.mono s r) (RepK.mono s t)
theorem RepF.mono {M M' : Addr → Prop} {H H' : Hp} (s : Stp M H M' H') : ∀ {n : List Str} {d : List D} {v : List (Str × V)}, RepF M H n d v → RepF M' H' n d v
  | _, _, _, .nil => .nil
  | _, _, _, .cons r t => .cons (Rep.mono s r) (RepF.mono s t)
end

theorem Reps.length {M : Addr → Prop} {H : Hp} : ∀ {d : List D} {v : List V}, Reps M H d v → d.length = v.length
  | _, _, .nil => rfl
  | _, _, .cons _ t => congrArg (· + 1) (Reps.length t)
theorem Reps.get {M : Addr → Prop} {H : Hp} : ∀ {d : List D} {v : List V} {i : Nat} {x : D}, Reps M H d v → d[i]? = some x → ∃ y, v[i]? = some y ∧ Rep M H x y
  | _, _, _, _, .nil, e => by simp at e
  | _, _, 0, _, .cons r _, e => by simp at e; subst e; exact ⟨_, rfl, r⟩
  | _, _, i + 1, x, .cons _ t, e => by
    obtain ⟨y, h1, h2⟩ := Reps.get (i := i) (x := x) t (by simpa using e)
    exact ⟨y, by simpa using h1, h2⟩
theorem Reps.getV {M : Addr → Prop} {H : Hp} : ∀ {d : List D} {v : List V} {i : Nat} {y : V}, Reps M H d v → v[i]? = some y → ∃ x, d[i]? = some x ∧ Rep M H x y
  | _, _, _, _, .nil, e => by simp at e
  | _, _, 0, _, .cons r _, e => by simp at e; subst e; exact ⟨_, rfl, r⟩
  | _, _, i + 1, y, .cons _ t, e => by
    obtain ⟨x, h1, h2⟩ := Reps.getV (i := i) (y := y) t (by simpa using e)
    exact ⟨x, by simpa using h1, h2⟩
theorem Reps.append {M : Addr → Prop} {H : Hp} : ∀ {d d' : List D} {v v' : List V}, Reps M H d v → Reps M H d' v' → Reps M H (d ++ d') (v ++ v')
  | _, _, _, _, .nil, h => h
  | _, _, _, _, .cons r t, h => .cons r (Reps.append t h)
theorem Reps.set {M : Addr → Prop} {H : Hp} {x : D} {y : V} (q : Rep M H x y) : ∀ {d : List D} {v : List V} (i : Nat), Reps M H d v → Reps M H (d.set i x) (v.set i y)
  | _, _, _, .nil => .nil
  | _, _, 0, .cons _ t => .cons q t
  | _, _, i + 1, .cons r t => .cons r (Reps.set q i t)
theorem Reps.drop {M : Addr → Prop} {H : Hp} : ∀ {d : List D} {v : List V} (n : Nat), Reps M H d v → Reps M H (d.drop n) (v.drop n)
  | _, _, 0, h => h
  | _, _, _ + 1, .nil => .nil
  | _, _, n + 1, .cons _ t => Reps.drop n t
theorem Reps.take {M : Addr → Prop} {H : Hp} : ∀ {d : List D} {v : List V} (n : Nat), Reps M H d v → Reps M H (d.take n) (v.take n)
  | _, _, 0, _ => .nil
  | _, _, _ + 1, .nil => .nil
  | _, _, n + 1, .cons r t => .cons r (Reps.take n t)
theorem Reps.ints {M : Addr → Prop} {H : Hp} : ∀ (l : List Int), Reps M H (l.map D.int) (l.map V.int)
  | [] => .nil
  | i :: l => .cons (.int i) (Reps.ints l)
theorem RepF.names {M : Addr → Prop} {H : Hp} : ∀ {n : List Str} {d : List D} {v : List (Str × V)}, RepF M H n d v → v.map (·.1) = n
  | _, _, _, .nil => rfl
  | _, _, _, .cons _ t => congrArg (_ :: ·) (RepF.names t)
/-- the place of a field -/
def fix (f : Str) : List Str → List D → Option D
  | n :: ns, d :: ds => if f = n then some d else fix f ns ds
  | _, _ => none
theorem RepF.look {M : Addr → Prop} {H : Hp} {f : Str} {x : D} : ∀ {n : List Str} {d : List D} {v : List (Str × V)}, RepF M H n d v → fix f n d = some x → ∃ y, v.lookup f = some y ∧ Rep M H x y
  | _, _, _, .nil, e => by simp [fix] at e
  | n :: ns, d :: ds, (_, v) :: vs, .cons r t, e => by
    unfold fix at e
    rw [lookup_put]
    by_cases h : f = n
    · rw [if_pos h] at e ⊢
      cases e
      exact ⟨v, rfl, r⟩
    · rw [if_neg h] at e ⊢
      exact RepF.look t e
theorem lookup_none {f : Str} : ∀ {v : List (Str × V)}, f ∉ v.map (·.1) → v.lookup f = none
  | [], _ => rfl
  | (n, v) :: vs, h => by
    rw [lookup_put, if_neg (fun e => h (by simp [e]))]
    exact lookup_none (fun z => h (by simp [z]))
theorem RepF.no {M : Addr → Prop} {H : Hp} {f : Str} {n : List Str} {d : List D} {v : List (Str × V)} (r : RepF M H n d v) (h : n.contains f = false) : v.lookup f = none :=
  lookup_none fun z => by
    rw [r.names] at z
    rw [List.contains_iff_mem.mpr z] at h
    cases h

/-! ### the mutable part -/
inductive MRep (M : Addr → Prop) (H : Hp) (a : Addr) : MO → Prop
  | lst {xs : List D} {vs : List V} (h : H a = some (.lst vs)) (r : Reps M H xs vs) : MRep M H a (.lst xs)
  | dic {kvs : List (Key × D)} {kws : List (Key × V)} (h : H a = some (.dK kws)) (r : RepK M H kvs kws) : MRep M H a (.dic kvs)
  | ins {C dx : Addr} {ns : List Str} {ds : List D} {gs : List (Str × V)} (h : H a = some (.ins C dx gs)) (r : RepF M H ns ds gs) : MRep M H a (.ins C ns ds)
structure MutR (m : Mu) (H : Hp) : Prop where
  nd : (m.map (·.1)).Nodup
  at_ : ∀ p ∈ m, MRep (dom m) H p.1 p.2
theorem MRep.there {M : Addr → Prop} {H : Hp} {a : Addr} {o : MO} (r : MRep M H a o) : ∃ u, H a = some u := by
  cases r with
  | lst h _ => exact ⟨_, h⟩
  | dic h _ => exact ⟨_, h⟩
  | ins h _ => exact ⟨_, h⟩
theorem MRep.mono {M M' : Addr → Prop} {H H' : Hp} {a : Addr} {o : MO} (s : Stp M H M' H') (k : ∀ u, H a = some u → H' a = some u) (r : MRep M H a o) : MRep M' H' a o := by
  cases r with
  | lst h r => exact .lst (k _ h) (r.mono s)
  | dic h r => exact .dic (k _ h) (r.mono s)
  | ins h r => exact .ins (k _ h) (r.mono s)
theorem MutR.nil (H : Hp) : MutR [] H := ⟨List.nodup_nil, fun _ h => by cases h⟩
theorem MutR.there {m : Mu} {H : Hp} (r : MutR m H) {a : Addr} (h : dom m a) : ∃ u, H a = some u := by
  obtain ⟨p, hp, e⟩ := List.mem_map.mp h
  subst e
  exact (r.at_ p hp).there
/-- a new fixed object -/
theorem MutR.new {m : Mu} {H : Hp} {p : Addr} {o : HO} (r : MutR m H) (n : H p = none) : MutR m (upd H p o) :=
  ⟨r.nd, fun q hq => (r.at_ q hq).mono (Stp.new n) fun u e => by rw [upd_ne (ne_of_none e n)]; exact e⟩
/-- a new mutable object -/
theorem MutR.newM {m : Mu} {H : Hp} {p : Addr} {o : HO} {x : MO} (r : MutR m H) (n : H p = none) (h : MRep (dom ((p, x) :: m)) (upd H p o) p x) : MutR ((p, x) :: m) (upd H p o) := by
  refine ⟨List.nodup_cons.mpr ⟨fun z => ?_, r.nd⟩, fun q hq => ?_⟩
  · obtain ⟨u, e⟩ := r.there (a := p) z
    rw [n] at e
    cases e
  · rcases List.mem_cons.mp hq with e | hq
    · subst e; exact h
    · exact (r.at_ q hq).mono (Stp.newM n) fun u e => by rw [upd_ne (ne_of_none e n)]; exact e
inductive At : Mu → Addr → MO → Prop
  | head {m : Mu} {p : Addr} {o : MO} : At ((p, o) :: m) p o
  | tail {m : Mu} {p : Addr} {o : MO} {q : Addr × MO} (h : At m p o) : At (q :: m) p o
inductive Put : Mu → Addr → MO → Mu → Prop
  | head {m : Mu} {p : Addr} {o u : MO} : Put ((p, o) :: m) p u ((p, u) :: m)
  | tail {m m' : Mu} {p : Addr} {u : MO} {q : Addr × MO} (h : Put m p u m') : Put (q :: m) p u (q :: m')
theorem At.mem {m : Mu} {p : Addr} {o : MO} (h : At m p o) : (p, o) ∈ m := by
  induction h with
  | head => exact List.mem_cons_self ..
  | tail _ ih => exact List.mem_cons_of_mem _ ih
theorem At.dom {m : Mu} {p : Addr} {o : MO} (h : At m p o) : dom m p := List.mem_map.mpr ⟨_, h.mem, rfl⟩
theorem At.rep {m : Mu} {p : Addr} {o : MO} {H : Hp} (h : At m p o) (r : MutR m H) : MRep (DL.dom m) H p o := r.at_ _ h.mem
theorem Put.keys {m m' : Mu} {p : Addr} {u : MO} (h : Put m p u m') : m'.map (·.1) = m.map (·.1) := by
  induction h with
  | head => rfl
  | tail _ ih => simp [ih]
theorem Put.dom {m m' : Mu} {p : Addr} {u : MO} (h : Put m p u m') : dom m' = dom m := by
  funext a
  unfold DL.dom
  rw [h.keys]
theorem Put.has {m m' : Mu} {p : Addr} {u : MO} (h : Put m p u m') : DL.dom m p := by
  induction h with
  | head => exact dom_cons.mpr (.inl rfl)
  | tail _ ih => exact dom_cons.mpr (.inr ih)
theorem Put.mem {m m' : Mu} {p : Addr} {u : MO} (h : Put m p u m') (nd : (m.map (·.1)).Nodup) : ∀ q ∈ m', (q = (p, u)) ∨ (q ∈ m ∧ q.1 ≠ p) := by
  induction h with
  | head =>
    intro q hq
    rcases List.mem_cons.mp hq with e | hq
    · exact .inl e
    · refine .inr ⟨List.mem_cons_of_mem _ hq, fun e => ?_⟩
      exact (List.nodup_cons.mp nd).1 (List.mem_map.mpr ⟨q, hq, e⟩)
  | tail h ih =>
    intro q hq
    rcases List.mem_cons.mp hq with e | hq
    · subst e
      refine .inr ⟨List.mem_cons_self .., fun e => ?_⟩
      have z := h.has
      rw [← e] at z
      exact (List.nodup_cons.mp nd).1 z
    · rcases ih (List.nodup_cons.mp nd).2 q hq with e | ⟨a, b⟩
      · exact .inl e
      · exact .inr ⟨List.mem_cons_of_mem _ a, b⟩
/-- a mutable object is written -/
theorem Put.stp {m m' : Mu} {p : Addr} {u : MO} {H : Hp} {o : HO} (h : Put m p u m') : Stp (DL.dom m) H (DL.dom m') (upd H p o) := Stp.wr h.has (fun a z => by rw [h.dom] at z; exact z)
theorem Put.mut {m m' : Mu} {p : Addr} {u : MO} {H : Hp} {o : HO} (h : Put m p u m') (r : MutR m H) (n : MRep (DL.dom m') (upd H p o) p u) : MutR m' (upd H p o) := by
  refine ⟨by rw [h.keys]; exact r.nd, fun q hq => ?_⟩
  rcases h.mem r.nd q hq with e | ⟨a, b⟩
  · subst e; exact n
  · exact (r.at_ q a).mono h.stp fun v e => by rw [upd_ne b]; exact e
/-- the newest mutable object is let go (it stays as it is) -/
theorem MutR.drop {m : Mu} {p : Addr × MO} {H : Hp} (r : MutR (p :: m) H) : MutR m H :=
  ⟨(List.nodup_cons.mp r.nd).2, fun q hq => (r.at_ q (List.mem_cons_of_mem _ hq)).mono (Stp.less fun a z => dom_cons.mpr (.inr z)) fun _ e => e⟩
theorem MutR.notin {m : Mu} {p : Addr × MO} {H : Hp} (r : MutR (p :: m) H) : ¬ dom m p.1 := (List.nodup_cons.mp r.nd).1

/-! ### frames -/
abbrev Rho := List (Option D)
inductive RO (M : Addr → Prop) (H : Hp) : Option D → Option V → Prop
  | none (v : Option V) : RO M H none v
  | some {d : D} {v : V} (r : Rep M H d v) : RO M H (some d) (some v)
inductive ROs (M : Addr → Prop) (H : Hp) : Rho → St → Prop
  | nil : ROs M H [] []
  | cons {d : Option D} {v : Option V} {ds : Rho} {vs : St} (r : RO M H d v) (t : ROs M H ds vs) : ROs M H (d :: ds) (v :: vs)
theorem RO.mono {M M' : Addr → Prop} {H H' : Hp} (s : Stp M H M' H') {d : Option D} {v : Option V} : RO M H d v → RO M' H' d v
  | .none v => .none v
  | .some r => .some (r.mono s)
theorem ROs.mono {M M' : Addr → Prop} {H H' : Hp} (s : Stp M H M' H') : ∀ {d : Rho} {v : St}, ROs M H d v → ROs M' H' d v
  | _, _, .nil => .nil
  | _, _, .cons r t => .cons (r.mono s) (ROs.mono s t)
theorem ROs.get {M : Addr → Prop} {H : Hp} : ∀ {d : Rho} {v : St} {i : Nat} {x : D}, ROs M H d v → d[i]? = some (some x) → ∃ y, v[i]? = some (some y) ∧ Rep M H x y
  | _, _, _, _, .nil, e => by simp at e
  | _, _, 0, _, .cons r _, e => by
    simp at e
    subst e
    cases r with
    | some r => exact ⟨_, rfl, r⟩
  | _, _, i + 1, x, .cons _ t, e => by
    obtain ⟨y, h1, h2⟩ := ROs.get (i := i) (x := x) t (by simpa using e)
    exact ⟨y, by simpa using h1, h2⟩
theorem ROs.set {M : Addr → Prop} {H : Hp} {x : Option D} {y : Option V} (q : RO M H x y) : ∀ {d : Rho} {v : St} (i : Nat), ROs M H d v → ROs M H (d.set i x) (v.set i y)
  | _, _, _, .nil => .nil
  | _, _, 0, .cons _ t => .cons q t
  | _, _, i + 1, .cons r t => .cons r (ROs.set q i t)
theorem ROs.start {M : Addr → Prop} {H : Hp} (k : Nat) : ∀ {ds : List D} {vs : List V}, Reps M H ds vs → ROs M H (ds.map some ++ List.replicate k none) (vs.map some ++ List.replicate k none)
  | _, _, .nil => by
    induction k with
    | zero => exact .nil
    | succ k ih => exact .cons (.none _) ih
  | _, _, .cons r t => .cons (.some r) (ROs.start k t)
structure EnvR (r : Rho) (m : Mu) (s : St) (H : Hp) : Prop where
  env : ROs (dom m) H r s
  mu : MutR m H
/-- forgetting what slots hold -/
inductive Le : Rho → Rho → Prop
  | nil : Le [] []
  | keep {d : Option D} {r r' : Rho} (t : Le r r') : Le (d :: r) (d :: r')
  | lose {d : Option D} {r r' : Rho} (t : Le r r') : Le (d :: r) (none :: r')
theorem ROs.le {M : Addr → Prop} {H : Hp} : ∀ {r r' : Rho} {v : St}, Le r r' → ROs M H r v → ROs M H r' v
  | _, _, _, .nil, h => h
  | _, _, _, .keep t, .cons a b => .cons a (ROs.le t b)
  | _, _, _, .lose t, .cons _ b => .cons (.none _) (ROs.le t b)

/-! ### exceptions -/
structure Ex where
  C : Addr
  ns : List Str
  ds : List D
def RepX (M : Addr → Prop) (H : Hp) (x : Ex) (cls : Value) (dd : Option Addr) : Prop :=
  cls = .ref x.C ∧ ((dd = none ∧ x.ns = [] ∧ x.ds = []) ∨ ∃ d gs, dd = some d ∧ H d = some (.xd gs) ∧ ¬ M d ∧ RepF M H x.ns x.ds gs)
theorem RepX.mono {M M' : Addr → Prop} {H H' : Hp} (s : Stp M H M' H') {x : Ex} {cls : Value} {dd : Option Addr} (h : RepX M H x cls dd) : RepX M' H' x cls dd := by
  obtain ⟨e, h⟩ := h
  refine ⟨e, ?_⟩
  rcases h with h | ⟨d, gs, h1, h2, h3, h4⟩
  · exact .inl h
  · exact .inr ⟨d, gs, h1, (s _ _ h2 h3).1, (s _ _ h2 h3).2, h4.mono s⟩

/-! ### what is wanted -/
abbrev KT := D → Mu → Prop
abbrev ET := Ex → Rho → Mu → Prop
def Go (m : Mu) (H : Hp) (K : KT) (Q : VK) : Prop := ∀ d m' v H', Stp (dom m) H (dom m') H' → MutR m' H' → Rep (dom m') H' d v → K d m' → Q v H'
def GoT (m : Mu) (H : Hp) (K : Bool → Mu → Prop) (Q : Bool → Hp → Prop) : Prop := ∀ b m' H', Stp (dom m) H (dom m') H' → MutR m' H' → K b m' → Q b H'
def GoA (m : Mu) (H : Hp) (K : List D → Mu → Prop) (Q : List V → Hp → Prop) : Prop := ∀ ds m' vs H', Stp (dom m) H (dom m') H' → MutR m' H' → Reps (dom m') H' ds vs → K ds m' → Q vs H'
/-- what is wanted of exceptions, at the frame's slots -/
def Rz (W : WX) (E : ET) (m : Mu) (H : Hp) : Prop := ∀ x r' m' cls dd s' H', Stp (dom m) H (dom m') H' → EnvR r' m' s' H' → RepX (dom m') H' x cls dd → E x r' m' → W cls dd s' H'
theorem Rz.step {W : WX} {E : ET} {m m1 : Mu} {H H1 : Hp} (z : Rz W E m H) (s : Stp (dom m) H (dom m1) H1) : Rz W E m1 H1 := fun x r' m' cls dd s' H' a b c e => z x r' m' cls dd s' H' (s.trans a) b c e
theorem Go.step {m m1 : Mu} {H H1 : Hp} {K : KT} {Q : VK} (g : Go m H K Q) (s : Stp (dom m) H (dom m1) H1) : Go m1 H1 K Q := fun d m' v H' a b c e => g d m' v H' (s.trans a) b c e

def We (W : WX) (E : ET) (t : TE) (r : Rho) (m : Mu) (K : KT) : Prop := ∀ s H Q, EnvR r m s H → Rz W E m H → Go m H K Q → t s H Q
def Wt (W : WX) (E : ET) (t : TT) (r : Rho) (m : Mu) (K : Bool → Mu → Prop) : Prop := ∀ s H Q, EnvR r m s H → Rz W E m H → GoT m H K Q → t s H Q
def Wa (W : WX) (E : ET) (t : TA) (r : Rho) (m : Mu) (K : List D → Mu → Prop) : Prop := ∀ s H Q, EnvR r m s H → Rz W E m H → GoA m H K Q → t s H Q
structure DEnds where
  nx : Rho → Mu → Prop
  rt : KT
  bk : Rho → Mu → Prop := fun _ _ => False
  ct : Rho → Mu → Prop := fun _ _ => False
structure GoS (m : Mu) (H : Hp) (P : DEnds) (De : Ends) : Prop where
  nx : ∀ r' m' s' H', Stp (dom m) H (dom m') H' → EnvR r' m' s' H' → P.nx r' m' → De.nx s' H'
  rt : ∀ d m' v H', Stp (dom m) H (dom m') H' → MutR m' H' → Rep (dom m') H' d v → P.rt d m' → De.rt v H'
  bk : ∀ r' m' s' H', Stp (dom m) H (dom m') H' → EnvR r' m' s' H' → P.bk r' m' → De.bk s' H'
  ct : ∀ r' m' s' H', Stp (dom m) H (dom m') H' → EnvR r' m' s' H' → P.ct r' m' → De.ct s' H'
theorem GoS.step {m m1 : Mu} {H H1 : Hp} {P : DEnds} {De : Ends} (g : GoS m H P De) (s : Stp (dom m) H (dom m1) H1) : GoS m1 H1 P De :=
  ⟨fun r' m' s' H' a => g.nx r' m' s' H' (s.trans a), fun d m' v H' a => g.rt d m' v H' (s.trans a), fun r' m' s' H' a => g.bk r' m' s' H' (s.trans a), fun r' m' s' H' a => g.ct r' m' s' H' (s.trans a)⟩
def Ws (W : WX) (E : ET) (t : TS) (r : Rho) (m : Mu) (P : DEnds) : Prop := ∀ s H De, EnvR r m s H → Rz W E m H → GoS m H P De → t De s H

section
variable {W : WX} {E : ET} {r : Rho} {m : Mu} {K : KT} {te ta tb tc : TE} {t u : TT} {a : TA} {P : DEnds} {ts tu : TS}
theorem EnvR.step {s : St} {H H1 : Hp} {m1 : Mu} (e : EnvR r m s H) (st : Stp (dom m) H (dom m1) H1) (mu : MutR m1 H1) : EnvR r m1 s H1 := ⟨e.env.mono st, mu⟩
/-- weaker wants -/
theorem We.imp {K' : KT} (h : We W E te r m K) (k : ∀ d m', K d m' → K' d m') : We W E te r m K' := fun s H Q e z g => h s H Q e z fun d m' v H' a b c x => g d m' v H' a b c (k d m' x)
theorem we_var {i : Nat} {d : D} (h : r[i]? = some (some d)) (k : K d m) : We W E (tVar i) r m K := fun s H Q e z g => by
  obtain ⟨v, h1, h2⟩ := e.env.get h
  exact ⟨v, h1, g d m v H (Stp.refl _ _) e.mu h2 k⟩
theorem we_cint {i : Int} (k : K (.int i) m) : We W E (tC (.int i)) r m K := fun s H Q e z g => g _ m _ H (Stp.refl _ _) e.mu (.int i) k
theorem we_cbl {b : Bool} (k : K (.bl b) m) : We W E (tC (.bl b)) r m K := fun s H Q e z g => g _ m _ H (Stp.refl _ _) e.mu (.bl b) k
theorem we_cnon (k : K .non m) : We W E (tC .non) r m K := fun s H Q e z g => g _ m _ H (Stp.refl _ _) e.mu .non k
theorem we_cstr {x : Str} (k : K (.str x) m) : We W E (tC (.str x)) r m K := fun s H Q e z g => g _ m _ H (Stp.refl _ _) e.mu (.str x) k
theorem we_cty {n : String} (k : K (.ty n) m) : We W E (tC (.ty n)) r m K := fun s H Q e z g => g _ m _ H (Stp.refl _ _) e.mu (.ty n) k
theorem we_cref {p : Addr} (k : K (.ref p) m) : We W E (tC (.ref p)) r m K := fun s H Q e z g => g _ m _ H (Stp.refl _ _) e.mu (.ref p) k

/-- an operation on values, at the frame's slots -/
abbrev O2 := V → V → St → Hp → VK → Prop
abbrev O1 := V → St → Hp → VK → Prop
def W2 (W : WX) (E : ET) (o : O2) (x y : D) (r : Rho) (m : Mu) (K : KT) : Prop := ∀ s H Q v w, EnvR r m s H → Rz W E m H → Rep (dom m) H x v → Rep (dom m) H y w → Go m H K Q → o v w s H Q
def W1 (W : WX) (E : ET) (o : O1) (x : D) (r : Rho) (m : Mu) (K : KT) : Prop := ∀ s H Q v, EnvR r m s H → Rz W E m H → Rep (dom m) H x v → Go m H K Q → o v s H Q
def t2 (o : O2) (ta tb : TE) : TE := fun s H Q => ta s H fun x H1 => tb s H1 fun y H2 => o x y s H2 Q
def t1 (o : O1) (ta : TE) : TE := fun s H Q => ta s H fun x H1 => o x s H1 Q
theorem we_2 {o : O2} (h : We W E ta r m fun x m1 => We W E tb r m1 fun y m2 => W2 W E o x y r m2 K) : We W E (t2 o ta tb) r m K := fun s H Q e z g =>
  h s H _ e z fun x m1 v H1 s1 mu1 r1 h1 => h1 s H1 _ (e.step s1 mu1) (z.step s1) fun y m2 w H2 s2 mu2 r2 h2 =>
    h2 s H2 Q v w ((e.step s1 mu1).step s2 mu2) ((z.step s1).step s2) (r1.mono s2) r2 ((g.step s1).step s2)
theorem we_1 {o : O1} (h : We W E ta r m fun x m1 => W1 W E o x r m1 K) : We W E (t1 o ta) r m K := fun s H Q e z g =>
  h s H _ e z fun x m1 v H1 s1 mu1 r1 h1 => h1 s H1 Q v (e.step s1 mu1) (z.step s1) r1 (g.step s1)

end
end DL
set_option Elab.async false
set_option linter.all false
set_option maxRecDepth 100000
/-! DL2: rules without types (an operation's reading is the union of what it can be), and what they do to values as trees. -/
namespace DL
open PySem PySem.Spec L2
open PyProof.Rows hiding St

/-! ### operations at the frame's slots -/
def OpS (X : Cx) (f : Value → Value → Sem Value) (o : O2) : Prop :=
  ∀ (pins : List (Addr × Obj)) (s : Shared) (σ : L2.St) (H : Hp) (x y : V) (u v : Value) (Q : VK), Inv X pins σ H s → RelV x u → RelV y v → o x y σ H Q → wpAny (model X.prog X.w) X.A (f u v) (EP X pins σ Q) X.xe s
def UnS (X : Cx) (f : Value → Sem Value) (o : O1) : Prop :=
  ∀ (pins : List (Addr × Obj)) (s : Shared) (σ : L2.St) (H : Hp) (x : V) (u : Value) (Q : VK), Inv X pins σ H s → RelV x u → o x σ H Q → wpAny (model X.prog X.w) X.A (f u) (EP X pins σ Q) X.xe s
abbrev OC := List V → L2.St → Hp → VK → Prop
def CallS (X : Cx) (f : Value) (o : OC) : Prop :=
  ∀ (pins : List (Addr × Obj)) (s : Shared) (σ : L2.St) (H : Hp) (xs : List V) (us : List Value) (Q : VK), Inv X pins σ H s → Vals xs us → o xs σ H Q → wpAny (model X.prog X.w) X.A (call f us) (EP X pins σ Q) X.xe s
def tC2 (o : OC) (t : TA) : TE := fun σ H Q => t σ H fun vs H1 => o vs σ H1 Q
section
variable {X : Cx} {op : Operator} {cop cop' : CmpOp} {uop : UnaryOp} {o o' : O2} {o1 o1' : O1} {oc oc' : OC} {a b c e : Expr} {es : List Expr} {ta tb tc : TE} {t : TA} {pos p : Pos} {f : Value → Value → Sem Value} {f1 : Value → Sem Value} {fv : Value} {x : Str} {T id : String}
theorem OpS.of {r : R2} (h : OpR X f r) : OpS X f (fun x y _ H Q => r x y H Q) := fun pins s σ H x y u v Q I ru rv q => h pins s σ H x y u v Q I ru rv q
theorem OpS.or (h : OpS X f o) (h' : OpS X f o') : OpS X f (fun x y s H Q => o x y s H Q ∨ o' x y s H Q) := fun pins s σ H x y u v Q I ru rv q => q.elim (h pins s σ H x y u v Q I ru rv) (h' pins s σ H x y u v Q I ru rv)
theorem UnS.of {r : V → Hp → VK → Prop} (h : UnR X f1 r) : UnS X f1 (fun x _ H Q => r x H Q) := fun pins s σ H x u Q I ru q => h pins s σ H x u Q I ru q
theorem UnS.or (h : UnS X f1 o1) (h' : UnS X f1 o1') : UnS X f1 (fun x s H Q => o1 x s H Q ∨ o1' x s H Q) := fun pins s σ H x u Q I ru q => q.elim (h pins s σ H x u Q I ru) (h' pins s σ H x u Q I ru)
theorem CallS.of {r : List V → Hp → VK → Prop} (h : CallR X fv r) : CallS X fv (fun xs _ H Q => r xs H Q) := fun pins s σ H xs us Q I ru q => h pins s σ H xs us Q I ru q
theorem CallS.or (h : CallS X fv oc) (h' : CallS X fv oc') : CallS X fv (fun xs s H Q => oc xs s H Q ∨ oc' xs s H Q) := fun pins s σ H xs us Q I ru q => q.elim (h pins s σ H xs us Q I ru) (h' pins s σ H xs us Q I ru)
theorem pe_bin (ho : OpS X (binaryOp op) o) (ha : PE X a ta) (hb : PE X b tb) : PE X (.BinOp a op b pos) (t2 o ta tb) :=
  ⟨fun pins s σ H Q I h => wpAny_BinOp (binT ha hb I (R := fun x y H2 => o x y σ H2 Q) h fun v u s2 x y H2 I2 r1 r2 q => ho pins s2 σ H2 x y v u Q I2 r1 r2 q)⟩
theorem pe_una (ho : UnS X (unaryOp uop) o1) (ha : PE X a ta) : PE X (.UnaryOp uop a pos) (t1 o1 ta) :=
  ⟨fun pins s σ H Q I h => UnaryOp_ (thn (ha.run pins s σ H _ I h) fun v s1 ⟨x, H1, I1, r1, q1⟩ => ho pins s1 σ H1 x v Q I1 r1 q1)⟩
theorem pe_cm (ho : OpS X (compareOp cop) o) (ha : PE X a ta) (hb : PE X b tb) (hm : behindInMarks cop b = false) : PE X (.Compare a [cop] [b] pos) (t2 o ta tb) :=
  ⟨fun pins s σ H Q I h => wpAny_Compare1 (binT ha hb I (R := fun x y H2 => o x y σ H2 Q) h fun v u s2 x y H2 I2 rx ry q => ho pins s2 σ H2 x y v u Q I2 rx ry q) hm⟩
theorem pt_cm (ho : OpS X (compareOp cop) o) (ha : PE X a ta) (hb : PE X b tb) (hm : behindInMarks cop b = false) : PT X (.Compare a [cop] [b] pos) (tTest (t2 o ta tb)) := by
  refine ⟨fun pins s σ H Q I h => ?_⟩
  refine wpAny_isTrue_Compare1 (thn (ha.run pins s σ H _ I h) fun v s1 ⟨x, H1, I1, r1, q1⟩ => thn (hb.run pins s1 σ H1 _ I1 q1) fun u s2 ⟨y, H2, I2, r2, q2⟩ =>
    thn (ho pins s2 σ H2 x y v u _ I2 r1 r2 q2) fun c s3 ⟨z, H3, I3, r3, k, e, q3⟩ => ?_) hm
  subst e
  cases r3
  exact wpAny_truthy_bool ⟨H3, I3, q3⟩
/-- a chain of two comparisons -/
def t3 (o o' : O2) (ta tb tc : TE) : TE := fun σ H Q => ta σ H fun x H1 => tb σ H1 fun y H2 => o x y σ H2 fun z H3 => ∃ k, z = .bl k ∧
  (if k = true then tc σ H3 fun w' H4 => o' y w' σ H4 Q else Q (.bl false) H3)
theorem pe_ch (ho : OpS X (compareOp cop) o) (ho' : OpS X (compareOp cop') o') (ha : PE X a ta) (hb : PE X b tb) (hc : PE X c tc)
    (hm : lastMarks [cop, cop'] [b, c] = false := by with_unfolding_all rfl) : PE X (.Compare a [cop, cop'] [b, c] pos) (t3 o o' ta tb tc) := by
  refine ⟨fun pins s σ H Q I h => ?_⟩
  refine Compare_chain (thn (ha.run pins s σ H _ I h) fun v s1 ⟨x, H1, I1, r1, q1⟩ => chain_link (thn (hb.run pins s1 σ H1 _ I1 q1) fun u s2 ⟨y, H2, I2, r2, q2⟩ =>
    thn (ho pins s2 σ H2 x y v u _ I2 r1 r2 q2) fun d s3 ⟨z, H3, I3, r3, k, e, q3⟩ => ?_)) hm
  subst e
  cases r3
  refine wpAny_truthy_bool ?_
  cases k with
  | false => exact ite_ff ⟨.bl false, H3, I3, rfl, q3⟩
  | true => exact ite_tt (chain_last (thn (hc.run pins s3 σ H3 _ I3 q3) fun w' s4 ⟨z', H4, I4, r4, q4⟩ => ho' pins s4 σ H4 y z' u w' Q I4 r2 r4 q4))
theorem pt_ch (ho : OpS X (compareOp cop) o) (ho' : OpS X (compareOp cop') o') (ha : PE X a ta) (hb : PE X b tb) (hc : PE X c tc)
    (hm : lastMarks [cop, cop'] [b, c] = false := by with_unfolding_all rfl) : PT X (.Compare a [cop, cop'] [b, c] pos) (tTest (t3 o o' ta tb tc)) := by
  refine ⟨fun pins s σ H Q I h => ?_⟩
  refine isTrue_chain (thn (ha.run pins s σ H _ I h) fun v s1 ⟨x, H1, I1, r1, q1⟩ => test_link (thn (hb.run pins s1 σ H1 _ I1 q1) fun u s2 ⟨y, H2, I2, r2, q2⟩ =>
    thn (ho pins s2 σ H2 x y v u _ I2 r1 r2 q2) fun d s3 ⟨z, H3, I3, r3, k, e, q3⟩ => ?_)) hm
  subst e
  cases r3
  refine wpAny_truthy_bool ?_
  cases k with
  | false =>
    obtain ⟨k', e', q'⟩ := q3
    cases e'
    exact ite_ff ⟨H3, I3, q'⟩
  | true =>
    refine ite_tt (test_last (thn (hc.run pins s3 σ H3 _ I3 q3) fun w' s4 ⟨z', H4, I4, r4, q4⟩ => thn (ho' pins s4 σ H4 y z' u w' _ I4 r2 r4 q4) fun d' s5 ⟨z2, H5, I5, r5, k2, e2, q5⟩ => ?_))
    subst e2
    cases r5
    exact wpAny_truthy_bool ⟨H5, I5, q5⟩
/-- a value as a test -/
def tTr (K : PySem.W.Frag) (ta : TE) : TT := fun σ H Q => ta σ H fun x H' => ∃ k, TruV K x H' k ∧ Q k H'
theorem pt_tr (ha : PE X a ta) (he : ∀ whole, isTrue a X.env whole = (do let v ← whole; standAt a.pos; holding [v] (truthy v)) := by intro _; rfl) : PT X a (tTr X.K ta) := pt_truth ha he
/-- built-in functions and classes by name -/
theorem pe_cb (hc : CallS X (.builtin id) oc) (hg : Gl X x) (hm : X.mg x = none) (hv : bootBuiltins x = some (.builtin id)) (ha : PA X (e :: es) t) (hn : x ≠ "__name__" := by decide) (hdb : (x == ("__debug__" : Str)) = false := by decide)
    (he : starEach (e :: es) X.env = (false, eval e X.env) :: starEach es X.env := by rfl) (hpl : (backTo pos (starEach es X.env)).any (·.1) = false := by rfl) : PE X (.Call (.Name x p) (e :: es) [] pos) (tC2 oc t) := by
  refine ⟨fun pins s σ H Q I h => ?_⟩
  refine wpAny_Call_Name_kw (ld_blt I hg hm hv ?_ hn hdb)
  exact PyProof.Rows.callWith_builtin1 (thn (ha.run pos pins s σ H _ I h) fun us s1 ⟨vs, H1, I1, r1, q1⟩ => hc pins s1 σ H1 vs us Q I1 r1 q1) he hpl
theorem pe_ct (hc : CallS X (.type T) oc) (hg : Gl X x) (hm : X.mg x = none) (hv : bootBuiltins x = some (.type T)) (ha : PA X (e :: es) t) (hn : x ≠ "__name__" := by decide) (hdb : (x == ("__debug__" : Str)) = false := by decide)
    (he : starEach (e :: es) X.env = (false, eval e X.env) :: starEach es X.env := by rfl) (hpl : (backTo pos (starEach es X.env)).any (·.1) = false := by rfl) : PE X (.Call (.Name x p) (e :: es) [] pos) (tC2 oc t) := by
  refine ⟨fun pins s σ H Q I h => ?_⟩
  refine wpAny_Call_Name_kw (ld_blt I hg hm hv ?_ hn hdb)
  exact PyProof.Rows.callWith_type1 (thn (ha.run pos pins s σ H _ I h) fun us s1 ⟨vs, H1, I1, r1, q1⟩ => hc pins s1 σ H1 vs us Q I1 r1 q1) he hpl
theorem pe_cf (hc : CallS X (.builtin id) oc) (hg : Gl X x) (hm : X.mg x = some (.builtin id)) (ha : PA X (e :: es) t) (hdb : (x == ("__debug__" : Str)) = false := by decide)
    (he : starEach (e :: es) X.env = (false, eval e X.env) :: starEach es X.env := by rfl) (hpl : (backTo pos (starEach es X.env)).any (·.1) = false := by rfl) : PE X (.Call (.Name x p) (e :: es) [] pos) (tC2 oc t) := by
  refine ⟨fun pins s σ H Q I h => ?_⟩
  refine wpAny_Call_Name_kw (ld_glob I hg hm ?_ hdb)
  exact PyProof.Rows.callWith_builtin1 (thn (ha.run pos pins s σ H _ I h) fun us s1 ⟨vs, H1, I1, r1, q1⟩ => hc pins s1 σ H1 vs us Q I1 r1 q1) he hpl
end
end DL
set_option Elab.async false
set_option linter.all false
set_option maxRecDepth 100000
/-! DL3: promises over trees; defs, methods, classes called; bodies. -/
namespace DL
open PySem PySem.Spec L2
open PyProof.Rows hiding St

/-- a promise over trees: the arguments, what lies mutable, what is wanted of the answer, of an exception -/
abbrev SpecD := List D → Mu → KT → (Ex → Mu → Prop) → Prop
def GoX (m : Mu) (H : Hp) (E : Ex → Mu → Prop) (F : XK) : Prop := ∀ x m' cls dd H', Stp (dom m) H (dom m') H' → MutR m' H' → RepX (dom m') H' x cls dd → E x m' → F cls dd H'
def spD (n : Nat) (S : SpecD) : Sp := fun vs H Q F => ∃ ds m K E, ds.length = n ∧ Reps (dom m) H ds vs ∧ MutR m H ∧ S ds m K E ∧ Go m H K Q ∧ GoX m H E F
/-- the world of a law: its program, what the top has written -/
structure Gx where
  P : Program
  w : World
  K : PySem.W.Frag
  mg : Str → Option Value
  base : Heap
abbrev Gx.of (X : Cx) : Gx := ⟨X.prog, X.w, X.K, X.mg, X.base⟩
/-- constants handed in as defaults -/
def ofD : D → V
  | .int i => .int i
  | .bl b => .bl b
  | .str x => .str x
  | .ref a => .ref a
  | .ty n => .ty n
  | _ => .non
def isC : D → Bool
  | .int _ => true
  | .bl _ => true
  | .str _ => true
  | .ref _ => true
  | .ty _ => true
  | .non => true
  | _ => false
theorem rep_c {M : Addr → Prop} {H : Hp} : ∀ {d : D}, isC d = true → Rep M H d (ofD d)
  | .non, _ => .non
  | .bl b, _ => .bl b
  | .int i, _ => .int i
  | .str x, _ => .str x
  | .ty n, _ => .ty n
  | .ref a, _ => .ref a
  | .tup _, h => by cases h
  | .lst _, h => by cases h
  | .dic _, h => by cases h
  | .ins _ _ _, h => by cases h
  | .exc _ _ _ _ _, h => by cases h
theorem reps_c {M : Addr → Prop} {H : Hp} : ∀ {ds : List D}, ds.all isC = true → Reps M H ds (ds.map ofD)
  | [], _ => .nil
  | d :: ds, h => by
    rw [List.all_cons, Bool.and_eq_true] at h
    exact .cons (rep_c h.1) (reps_c h.2)
/-- a def that stands at f: n parameters, defaults dd -/
structure Fnx (G : Gx) (k : Nat) (f : Addr) (n : Nat) (S : SpecD) (dd : List D) : Prop where
  ex : ∃ (fd : FuncData) (ps : List Str) (ds : List Value), FnOk G.P G.w G.K G.mg G.base (L2N.CX G.P G.w) k f fd ps (spD n S) ∧ Binds G.K fd ps ds ∧ Vals (dd.map ofD) ds
  cs : dd.all isC = true
structure Cal (G : Gx) (k : Nat) (x : Str) (n : Nat) (S : SpecD) (dd : List D) : Prop where
  ex : ∃ f, Fnx G k f n S dd ∧ G.mg x = some (.ref f) ∧ PySem.W.keepIn G.K (.ref f) = true
/-- a method mt of the class at C, whose instances have the fields ns -/
structure Met (G : Gx) (k : Nat) (C : Addr) (ns : List Str) (mt : Str) (n : Nat) (S : SpecD) (dd : List D) : Prop where
  ex : ∃ f, Fnx G k f n S dd ∧ Meth G.K C mt f
  cl : Cls G.K C
  no : ns.contains mt = false
structure Mak (G : Gx) (k : Nat) (x : Str) (C : Addr) (n : Nat) (S : SpecD) (dd : List D) : Prop where
  ex : ∃ f, Fnx G k f n S dd ∧ Mk G.K C f
  mgC : G.mg x = some (.ref C)

section
variable {X : Cx} {W : WX} {E : ET} {r : Rho} {m : Mu} {K : KT} {S : SpecD} {x mt : Str} {k j n : Nat} {dd : List D} {e o : Expr} {es : List Expr} {t : TA} {to : TE} {p pos apos : Pos} {C : Addr} {ns : List Str}

/-! ### a def by its name -/
def tCl (n : Nat) (S : SpecD) (dd : List D) (W : WX) (t : TA) : TE := tCallSD (spD n S) (dd.map ofD) (WE W) t
theorem pe_cl (c : Cal (Gx.of X) k x n S dd) (hr : Room j X.A) (hk : k ≤ j) (tk : L2N.Takes X W) (hg : Gl X x) (ha : PA X (e :: es) t)
    (hdb : (x == ("__debug__" : Str)) = false := by decide) (he : starEach (e :: es) X.env = (false, eval e X.env) :: starEach es X.env := by rfl) (hpl : (backTo pos (starEach es X.env)).any (·.1) = false := by rfl) :
    PE X (.Call (.Name x p) (e :: es) [] pos) (tCl n S dd W t) := by
  obtain ⟨f, ⟨⟨fd, ps, ds, F, b, d⟩, cs⟩, hm, kp⟩ := c.ex
  exact pe_callSD F (hr.mono hk) hg hm kp b d (L2N.passAt tk) ha hdb he hpl
theorem spD_of {ds : List D} {vs : List V} {m1 : Mu} {H1 : Hp} {Q : VK} {s : L2.St} {F : Ex → Mu → Prop} (hn : ds.length = n) (e : EnvR r m1 s H1) (z : Rz W E m1 H1) (g : Go m1 H1 K Q) (rs : Reps (dom m1) H1 ds vs)
    (h : S ds m1 K F) (hF : ∀ x m', F x m' → E x r m') : spD n S vs H1 Q (WE W s) :=
  ⟨ds, m1, K, F, hn, rs, e.mu, h, g, fun x m' cls dd H' a b c q => z x r m' cls dd s H' a (e.step a b) c (hF x m' q)⟩
theorem we_cl (cs : dd.all isC = true) (h : Wa W E t r m fun ds m1 => (ds ++ dd).length = n ∧ S (ds ++ dd) m1 K fun x m' => E x r m') : We W E (tCl n S dd W t) r m K := fun s H Q e z g =>
  h s H _ e z fun ds m1 vs H1 st mu rs q => spD_of q.1 (e.step st mu) (z.step st) (g.step st) (rs.append (reps_c cs)) q.2 fun _ _ q => q

/-! ### a method of an instance -/
def tMt (G : Gx) (j : Nat) (W : WX) (mt : Str) (to : TE) (t : TA) : TE := fun σ H Q => to σ H fun x H1 => ∃ (a C dx : Addr) (fs : List (Str × V)) (k n : Nat) (ns : List Str) (S : SpecD) (dd : List D), x = .ref a ∧ H1 a = some (.ins C dx fs) ∧ fs.lookup mt = none ∧ k ≤ j ∧ Met G k C ns mt n S dd ∧
  t σ H1 fun vs H2 => spD n S (x :: (vs ++ dd.map ofD)) H2 Q (WE W σ)
theorem pe_mth {pl : Sem Bool} (hr : Room j X.A) (tk : L2N.Takes X W) (he : PE X o to) (ha : PA X (e :: es) t)
    (hst : starEach (e :: es) X.env = (false, eval e X.env) :: starEach es X.env := by rfl) (hpl : (backTo pos (starEach es X.env)).any (·.1) = false := by rfl)
    (ht : eval (.Call (.Attribute o mt apos) (e :: es) [] pos) X.env = (do
      let ov ← eval o X.env
      standAt apos.atName
      let (f, first) ← holding [ov] (getMethod ov mt pl)
      callWith pos f first (backTo pos (starEach (e :: es) X.env)) (backToKw pos (keywordEach [] X.env))) := by rfl) :
    PE X (.Call (.Attribute o mt apos) (e :: es) [] pos) (tMt (Gx.of X) j W mt to t) := by
  refine ⟨fun pins s σ H Q I h => ?_⟩
  refine PySem.W.methodCall_KW (pl := pl) (thn (he.run pins s σ H _ I h) fun u s1 ⟨x, H1, I1, rx, a, C, dx, fs, k, n, ns, S, dd, ex, ea, l, hk, M, q⟩ => ?_) ht
  subst ex
  obtain rfl : u = Value.ref a := rx
  obtain ⟨f, ⟨⟨fd, ps, ds, F, b, d⟩, cs⟩, hm⟩ := M.ex
  refine getmeth_ok I1 ea M.cl hm l ?_
  refine PySem.W.callWith_K (first := [.ref a]) (h₀ := X.base) I.ok.mod.kin hm.kp (thn (ha.run pos pins s1 σ H1 _ I1 q) fun us s2 ⟨vs, H2, I2, rr, q2⟩ => ⟨I2.kIn, ?_⟩) hst hpl
  exact run_fnSD (E := WE W) (us := .ref a :: us) (vs := .ref a :: vs) F (hr.mono hk) b d (L2N.passAt tk σ) I2 (.cons rfl rr) q2
theorem pe_mth0 {pl : Sem Bool} (hr : Room j X.A) (tk : L2N.Takes X W) (he : PE X o to)
    (ht : eval (.Call (.Attribute o mt apos) [] [] pos) X.env = (do
      let ov ← eval o X.env
      standAt apos.atName
      let (f, first) ← holding [ov] (getMethod ov mt pl)
      callWith pos f first (backTo pos (starEach [] X.env)) (backToKw pos (keywordEach [] X.env))) := by rfl) :
    PE X (.Call (.Attribute o mt apos) [] [] pos) (tMt (Gx.of X) j W mt to tNil) := by
  refine ⟨fun pins s σ H Q I h => ?_⟩
  refine PySem.W.methodCall_KW (pl := pl) (thn (he.run pins s σ H _ I h) fun u s1 ⟨x, H1, I1, rx, a, C, dx, fs, k, n, ns, S, dd, ex, ea, l, hk, M, q⟩ => ?_) ht
  subst ex
  obtain rfl : u = Value.ref a := rx
  obtain ⟨f, ⟨⟨fd, ps, ds, F, b, d⟩, cs⟩, hm⟩ := M.ex
  refine getmeth_ok I1 ea M.cl hm l ?_
  exact PySem.W.callWith_K0 (first := [.ref a]) I1.kIn hm.kp (run_fnSD (E := WE W) (us := [.ref a]) (vs := [.ref a]) F (hr.mono hk) b d (L2N.passAt tk σ) I1 (.cons rfl .nil) q)
/-- the instance that a tree is -/
inductive InsD : D → Mu → Addr → List Str → Prop
  | fixed {m : Mu} {C : Addr} {ns : List Str} {ds : List D} : InsD (.ins C ns ds) m C ns
  | mutb {m : Mu} {C a : Addr} {ns : List Str} {ds : List D} (h : At m a (.ins C ns ds)) : InsD (.ref a) m C ns
theorem InsD.look {d : D} {m : Mu} {C : Addr} {ns : List Str} {H : Hp} {v : V} (i : InsD d m C ns) (mu : MutR m H) (rp : Rep (dom m) H d v) : ∃ a dx gs ds, v = .ref a ∧ H a = some (.ins C dx gs) ∧ RepF (dom m) H ns ds gs := by
  cases i with
  | fixed =>
    cases rp with
    | ins mm h rf => exact ⟨_, _, _, _, rfl, h, rf⟩
  | mutb h =>
    cases rp
    have q := h.rep mu
    cases q with
    | ins h rf => exact ⟨_, _, _, _, rfl, h, rf⟩
theorem we_mt {G : Gx} (h : We W E to r m fun d m1 => ∃ (k n : Nat) (C : Addr) (ns : List Str) (S : SpecD) (dd : List D), Met G k C ns mt n S dd ∧ dd.all isC = true ∧ k ≤ j ∧ InsD d m1 C ns ∧
    Wa W E t r m1 fun ds m2 => (d :: (ds ++ dd)).length = n ∧ S (d :: (ds ++ dd)) m2 K fun x m' => E x r m') : We W E (tMt G j W mt to t) r m K := fun s H Q e z g =>
  h s H _ e z fun d m1 v H1 st mu rd q => by
    obtain ⟨k, n, C, ns, S, dd, M, cs, hk, i, q⟩ := q
    obtain ⟨a, dx, gs, ds', rfl, ha, rf⟩ := i.look mu rd
    refine ⟨a, C, dx, gs, k, n, ns, S, dd, rfl, ha, rf.no M.no, hk, M, ?_⟩
    refine q s H1 _ (e.step st mu) (z.step st) fun ds m2 vs H2 st2 mu2 rs q2 => ?_
    exact spD_of q2.1 ((e.step st mu).step st2 mu2) ((z.step st).step st2) ((g.step st).step st2) (.cons (rd.mono st2) (rs.append (reps_c cs))) q2.2 fun _ _ q => q

/-! ### a class by its name -/
theorem run_makeS {CX : CXT} {k : Nat} {C f : Addr} {fd : FuncData} {ps : List Str} {sp : Sp} {ds : List Value} {dvs : List V} {E : L2.St → XK} {pins : List (Addr × Obj)} {σ : L2.St} {H : Hp} {s : Shared} {Q : VK} {us : List Value} {vs : List V} (M : Mk X.K C f) (F : FnOk X.prog X.w X.K X.mg X.base CX k f fd ps sp) (hr : Room (k + 1) X.A) (hb : Binds X.K fd ps ds) (hd : Vals dvs ds)
    (hx : PassesAt CX X σ (E σ)) (I : Inv X pins σ H s) (r : Vals vs us)
    (h : ∀ x dx, H x = none → H dx = none → dx ≠ x → sp (.ref x :: (vs ++ dvs)) (upd (upd H dx (.own x)) x (.ins C dx [])) (fun v H2 => v = .non ∧ Q (.ref x) H2) (E σ)) :
    wpAny (model X.prog X.w) X.A (call (.ref C) us) (EP X pins σ Q) X.xe s := by
  have hq := h (s.heap.objs.size + 1) s.heap.objs.size (I.hok.fresh (Nat.le_succ _)) (I.hok.fresh (Nat.le_refl _)) (Nat.ne_of_lt (Nat.lt_succ_self _))
  have I2 := Inv.made (C := C) I
  have r2 : Vals (V.ref (s.heap.objs.size + 1) :: (vs ++ dvs)) (Value.ref (s.heap.objs.size + 1) :: (us ++ ds)) := .cons rfl (r.append hd)
  have hl : (Value.ref (s.heap.objs.size + 1) :: us ++ ds).length = ps.length := by
    have e := r2.length
    rw [F.len _ _ _ _ hq] at e
    exact e.symm
  refine wpAny_call (make_map (f := f) I.kIn M.makes M.init (beq_iff_eq.mp M.fn) (codeAny_mono (F.run _ X.stack _ _ ⟨Value.ref (s.heap.objs.size + 1) :: us, []⟩ (Value.ref (s.heap.objs.size + 1) :: (us ++ ds)) _ _ (E σ) (hr.make C us [])
    (I2.env0.make C us []) (hb _ (Value.ref (s.heap.objs.size + 1) :: us) I2.kIn hl) r2 hq) fun r s' hq' => ?_))
  cases r with
  | error e => exact hx pins _ _ e s' I2 hq'
  | ok fl =>
    cases fl with
    | ret u =>
      obtain ⟨v, H', I3, rv, ev, q3⟩ := I2.after hq'
      subst ev
      exact ⟨rv, ⟨V.ref (s.heap.objs.size + 1), H', I3, rfl, q3⟩⟩
    | next => exact False.elim hq'
    | brk => exact False.elim hq'
    | cont => exact False.elim hq'
def tMk (C : Addr) (n : Nat) (S : SpecD) (dd : List D) (W : WX) (t : TA) : TE := fun σ H Q => t σ H fun vs H1 => ∀ x dx, H1 x = none → H1 dx = none → dx ≠ x →
  spD n S (.ref x :: (vs ++ dd.map ofD)) (upd (upd H1 dx (.own x)) x (.ins C dx [])) (fun v H2 => v = .non ∧ Q (.ref x) H2) (WE W σ)
theorem pe_mak (c : Mak (Gx.of X) k x C n S dd) (hr : Room j X.A) (hk : k + 1 ≤ j) (tk : L2N.Takes X W) (hg : Gl X x) (ha : PA X (e :: es) t)
    (hdb : (x == ("__debug__" : Str)) = false := by decide) (he : starEach (e :: es) X.env = (false, eval e X.env) :: starEach es X.env := by rfl) (hpl : (backTo pos (starEach es X.env)).any (·.1) = false := by rfl) :
    PE X (.Call (.Name x p) (e :: es) [] pos) (tMk C n S dd W t) := by
  obtain ⟨f, ⟨⟨fd, ps, ds, F, b, d⟩, cs⟩, M⟩ := c.ex
  refine ⟨fun pins s σ H Q I h => ?_⟩
  refine wpAny_Call_Name_kw (ld_glob I hg c.mgC ?_ hdb)
  refine PySem.W.callWith_K (h₀ := X.base) I.ok.mod.kin M.kp (thn (ha.run pos pins s σ H _ I h) fun us s1 ⟨vs, H1, I1, r, q⟩ => ⟨I1.kIn, ?_⟩) he hpl
  exact run_makeS (E := WE W) M F (hr.mono hk) b d (L2N.passAt tk σ) I1 r q
theorem pe_mak0 (c : Mak (Gx.of X) k x C n S dd) (hr : Room j X.A) (hk : k + 1 ≤ j) (tk : L2N.Takes X W) (hg : Gl X x) (hdb : (x == ("__debug__" : Str)) = false := by decide) :
    PE X (.Call (.Name x p) [] [] pos) (tMk C n S dd W tNil) := by
  obtain ⟨f, ⟨⟨fd, ps, ds, F, b, d⟩, cs⟩, M⟩ := c.ex
  refine ⟨fun pins s σ H Q I h => ?_⟩
  refine wpAny_Call_Name_kw (ld_glob I hg c.mgC ?_ hdb)
  exact PySem.W.callWith_K0 I.kIn M.kp (run_makeS (E := WE W) (us := []) M F (hr.mono hk) b d (L2N.passAt tk σ) I .nil h)
/-- a new instance that stays as __init__ leaves it -/
theorem we_mk (cs : dd.all isC = true) (h : Wa W E t r m fun ds m1 => (ds ++ dd).length + 1 = n ∧ ∀ x, ¬ dom m1 x →
    S (.ref x :: (ds ++ dd)) ((x, .ins C [] []) :: m1) (fun d m2 => ∃ ns fs, d = .non ∧ m2 = (x, .ins C ns fs) :: m1 ∧ K (.ins C ns fs) m1) fun ex m2 => ∃ o, m2 = (x, o) :: m1 ∧ E ex r m1) : We W E (tMk C n S dd W t) r m K := fun s H Q e z g =>
  h s H _ e z fun ds m1 vs H1 st mu rs q x dx hx hdx hne => by
    have hn1 : upd H1 dx (.own x) x = none := by rw [upd_ne (Ne.symm hne)]; exact hx
    have s1 : Stp (dom m1) H1 (dom m1) (upd H1 dx (.own x)) := Stp.new hdx
    have mu1 : MutR m1 (upd H1 dx (.own x)) := mu.new hdx
    have s2 : Stp (dom m1) (upd H1 dx (.own x)) (dom ((x, .ins C [] []) :: m1)) (upd (upd H1 dx (.own x)) x (.ins C dx [])) := Stp.newM hn1
    have mu2 : MutR ((x, .ins C [] []) :: m1) (upd (upd H1 dx (.own x)) x (.ins C dx [])) := mu1.newM hn1 (.ins upd_same .nil)
    have nd : ¬ dom m1 x := mu2.notin
    refine ⟨.ref x :: (ds ++ dd), _, _, _, by rw [List.length_cons]; exact q.1, .cons (.ref x) ((rs.append (reps_c cs)).mono (s1.trans s2)), mu2, q.2 x nd, ?_, ?_⟩
    · rintro d m' v H' a b c ⟨ns, fs, rfl, rfl, k⟩
      cases c
      refine ⟨rfl, ?_⟩
      have at1 := (At.head (m := m1) (p := x) (o := .ins C ns fs)).rep b
      have ls : Stp (dom ((x, MO.ins C ns fs) :: m1)) H' (dom m1) H' := Stp.less fun a z => dom_cons.mpr (.inr z)
      cases at1 with
      | ins hh rf => exact g _ m1 _ H' (st.trans ((s1.trans s2).trans (a.trans ls))) b.drop (.ins nd hh (rf.mono ls)) k
    · rintro ex m' cls dd' H' a b c ⟨o, rfl, k⟩
      have ls : Stp (dom ((x, o) :: m1)) H' (dom m1) H' := Stp.less fun a z => dom_cons.mpr (.inr z)
      have tot := st.trans ((s1.trans s2).trans (a.trans ls))
      exact z ex r m1 cls dd' s H' tot (e.step tot b.drop) (c.mono ls) k
end

/-! ### bodies -/
abbrev cxG (G : Gx) (N : List Str) (qual : Str) (st : Stmt) (f : Addr) (cdv : Value) (A : Around) (outer : List Env) (s : Shared) (H : Hp) (F : XK) : Cx := cxOf (L2N.CX G.P G.w) G.P G.w G.K G.mg G.base N qual (defScope st) f cdv A outer s H F
abbrev wF (F : XK) : WX := fun cls d _ H => F cls d H
abbrev eF (E : Ex → Mu → Prop) : ET := fun x _ m => E x m
abbrev pF (K : KT) : DEnds := { nx := fun _ m => K .non m, rt := K }
/-- a promise is kept by the body of the def -/
abbrev FunW (K : PySem.W.Frag) (x qual : Str) (st : Stmt) (dvs : List V) (f : Addr) (fd : FuncData) : Prop := FunD K x qual (defArgs st) (defBody st) (defScope st) dvs [] f fd
theorem funW_of {K : PySem.W.Frag} {x qual : Str} {st : Stmt} {f : Addr} {fd : FuncData} (F : L2.Fun K x qual st f fd) : FunW K x qual st [] f fd := by
  have kp := F.kp
  obtain ⟨oc, od, kV, doc, pm, an, cdv, ct, osl, rfl, lk, hcd⟩ := F.ex
  exact ⟨⟨oc, od, _, kV, doc, pm, an, cdv, ct, osl, rfl, lk, hcd, .inl ⟨rfl, rfl⟩, .inl rfl⟩, kp⟩
theorem fnok_ofD {G : Gx} {xn qual : Str} {st : Stmt} {f : Addr} {fd : FuncData} {N ps : List Str} {k n : Nat} {S : SpecD} {dvs : List V} (F : FunW G.K xn qual st dvs f fd) (Sc : FnScope N ps (defScope st)) (hn : ps.length = n)
    (h : ∀ (cdv : Value) (A : Around) (outer : List Env) (s : Shared) (H : Hp) (F : XK), Room k (cxG G N qual st f cdv A outer s H F).A → L2N.Takes (cxG G N qual st f cdv A outer s H F) (wF F) →
      ∃ t, PSs (cxG G N qual st f cdv A outer s H F) (defBody st) t ∧ ∀ ds m K E, ds.length = n → S ds m K E → Ws (wF F) (eF E) t (ds.map some ++ List.replicate (N.length - n) none) m (pF K)) : FnOk G.P G.w G.K G.mg G.base (L2N.CX G.P G.w) (k + 1) f fd ps (spD n S) := by
  obtain ⟨oc, od, dV, kV, doc, pm, an, cdv, ct, osl, rfl, lk, hcd, _, _⟩ := F.ex
  refine fn_of lk hcd Sc (fun vs H Q E q => ?_) (fun A outer s H vs Q E hr q => ?_)
  · obtain ⟨ds, m, K, E, h1, h2, _⟩ := q
    rw [← h2.length, h1, hn]
  · obtain ⟨ds, m, K, E', h1, h2, mu, hs, g, gx⟩ := q
    obtain ⟨t, ht, hw⟩ := h cdv A outer s H E hr (L2N.takes_of rfl rfl rfl rfl)
    refine ⟨t, ht, hw ds m K E' h1 hs _ H _ ⟨?_, mu⟩ ?_ ?_⟩
    · have e : vs.length = n := by rw [← h2.length, h1]
      unfold L2.start
      rw [e]
      exact ROs.start _ h2
    · intro x r' m' cls dd s' H' a b c q
      exact gx x m' cls dd H' a b.mu c q
    · exact ⟨fun r' m' s' H' a b q => g _ m' _ H' a b.mu .non q, fun d m' v H' a b c q => g d m' v H' a b c q, fun _ _ _ _ _ _ q => q, fun _ _ _ _ _ _ q => q⟩
theorem fnok_of {G : Gx} {xn qual : Str} {st : Stmt} {f : Addr} {fd : FuncData} {N ps : List Str} {k n : Nat} {S : SpecD} (F : L2.Fun G.K xn qual st f fd) (Sc : FnScope N ps (defScope st)) (hn : ps.length = n)
    (h : ∀ (cdv : Value) (A : Around) (outer : List Env) (s : Shared) (H : Hp) (F : XK), Room k (cxG G N qual st f cdv A outer s H F).A → L2N.Takes (cxG G N qual st f cdv A outer s H F) (wF F) →
      ∃ t, PSs (cxG G N qual st f cdv A outer s H F) (defBody st) t ∧ ∀ ds m K E, ds.length = n → S ds m K E → Ws (wF F) (eF E) t (ds.map some ++ List.replicate (N.length - n) none) m (pF K)) : FnOk G.P G.w G.K G.mg G.base (L2N.CX G.P G.w) (k + 1) f fd ps (spD n S) := fnok_ofD (funW_of F) Sc hn h
theorem fnx_ofD {G : Gx} {xn qual : Str} {st : Stmt} {f : Addr} {fd : FuncData} {N ps : List Str} {k n : Nat} {S : SpecD} {dvs : List V} {dd : List D} {ds : List Value} (F : FunW G.K xn qual st dvs f fd) (Sc : FnScope N ps (defScope st)) (hn : ps.length = n)
    (b : Binds G.K fd ps ds) (d : Vals (dd.map ofD) ds) (cs : dd.all isC = true)
    (h : ∀ (cdv : Value) (A : Around) (outer : List Env) (s : Shared) (H : Hp) (F : XK), Room k (cxG G N qual st f cdv A outer s H F).A → L2N.Takes (cxG G N qual st f cdv A outer s H F) (wF F) →
      ∃ t, PSs (cxG G N qual st f cdv A outer s H F) (defBody st) t ∧ ∀ ds m K E, ds.length = n → S ds m K E → Ws (wF F) (eF E) t (ds.map some ++ List.replicate (N.length - n) none) m (pF K)) : Fnx G (k + 1) f n S dd := ⟨⟨_, ps, ds, fnok_ofD F Sc hn h, b, d⟩, cs⟩
theorem fnx_of {G : Gx} {xn qual : Str} {st : Stmt} {f : Addr} {fd : FuncData} {N ps : List Str} {k n : Nat} {S : SpecD} {dd : List D} {ds : List Value} (F : L2.Fun G.K xn qual st f fd) (Sc : FnScope N ps (defScope st)) (hn : ps.length = n)
    (b : Binds G.K fd ps ds) (d : Vals (dd.map ofD) ds) (cs : dd.all isC = true)
    (h : ∀ (cdv : Value) (A : Around) (outer : List Env) (s : Shared) (H : Hp) (F : XK), Room k (cxG G N qual st f cdv A outer s H F).A → L2N.Takes (cxG G N qual st f cdv A outer s H F) (wF F) →
      ∃ t, PSs (cxG G N qual st f cdv A outer s H F) (defBody st) t ∧ ∀ ds m K E, ds.length = n → S ds m K E → Ws (wF F) (eF E) t (ds.map some ++ List.replicate (N.length - n) none) m (pF K)) : Fnx G (k + 1) f n S dd := fnx_ofD (funW_of F) Sc hn b d cs h
/-! ### defs called within an except suite: nothing is raised -/
structure CalH (G : Gx) (k : Nat) (x : Str) (n : Nat) (S : SpecD) : Prop where
  ex : ∃ (f : Addr) (fd : FuncData) (ps : List Str), L2H.FnH G.P G.w G.K G.mg G.base (L2N.CX G.P G.w) k f fd ps (spD n S) ∧ Binds G.K fd ps [] ∧ G.mg x = some (.ref f) ∧ PySem.W.keepIn G.K (.ref f) = true
abbrev cxGH (G : Gx) (N : List Str) (qual : Str) (st : Stmt) (f : Addr) (cdv : Value) (A : Around) (outer : List Env) (s : Shared) (H : Hp) (F : XK) (p : Addr × Obj) : Cx := L2H.cxH (L2N.CX G.P G.w) G.P G.w G.K G.mg G.base N qual (defScope st) f cdv A outer s H F p
theorem calH_of {G : Gx} {x : Str} {st : Stmt} {f : Addr} {fd : FuncData} {N ps : List Str} {k n : Nat} {S : SpecD} (F : L2.Fun G.K x x st f fd) (hm : G.mg x = some (.ref f)) (Sc : FnScope N ps (defScope st)) (hn : ps.length = n)
    (b : Binds G.K fd ps [])
    (h : ∀ (cdv : Value) (A : Around) (outer : List Env) (s : Shared) (H : Hp) (F : XK) (p : Addr × Obj), L2H.Hot1 A p → L2H.RoomH k (cxGH G N x st f cdv A outer s H F p).A → L2N.Takes (cxGH G N x st f cdv A outer s H F p) (wF F) →
      ∃ t, PSs (cxGH G N x st f cdv A outer s H F p) (defBody st) t ∧ ∀ ds m K E, ds.length = n → S ds m K E → Ws (wF F) (eF E) t (ds.map some ++ List.replicate (N.length - n) none) m (pF K)) : CalH G (k + 1) x n S := by
  have kp := F.kp
  obtain ⟨oc, od, kV, doc, pm, an, cdv, ct, osl, rfl, lk, hcd⟩ := F.ex
  refine ⟨f, _, ps, L2H.fn_ofH lk hcd Sc (fun vs H Q E q => ?_) (fun A outer s H vs Q E p hot hr q => ?_), b, hm, kp⟩
  · obtain ⟨ds, m, K, E, h1, h2, _⟩ := q
    rw [← h2.length, h1, hn]
  · obtain ⟨ds, m, K, E', h1, h2, mu, hs, g, gx⟩ := q
    obtain ⟨t, ht, hw⟩ := h cdv A outer s H E p hot hr (L2N.takes_of rfl rfl rfl rfl)
    refine ⟨t, ht, hw ds m K E' h1 hs _ H _ ⟨?_, mu⟩ ?_ ?_⟩
    · have e : vs.length = n := by rw [← h2.length, h1]
      unfold L2.start
      rw [e]
      exact ROs.start _ h2
    · intro x r' m' cls dd s' H' a b c q
      exact gx x m' cls dd H' a b.mu c q
    · exact ⟨fun r' m' s' H' a b q => g _ m' _ H' a b.mu .non q, fun d m' v H' a b c q => g d m' v H' a b c q, fun _ _ _ _ _ _ q => q, fun _ _ _ _ _ _ q => q⟩
section
variable {X : Cx} {W : WX} {E : ET} {r : Rho} {m : Mu} {K : KT} {S : SpecD} {x : Str} {k j n : Nat} {e : Expr} {es : List Expr} {t : TA} {p pos : Pos}
def tClH (n : Nat) (S : SpecD) (W : WX) (t : TA) : TE := tCallS (spD n S) (WE W) t
theorem pe_clH (c : CalH (Gx.of X) k x n S) (hr : L2H.RoomH j X.A) (hk : k ≤ j) (hc : L2H.HotC X) (tk : L2N.Takes X W) (hg : Gl X x) (ha : PA X (e :: es) t)
    (hdb : (x == ("__debug__" : Str)) = false := by decide) (he : starEach (e :: es) X.env = (false, eval e X.env) :: starEach es X.env := by rfl) (hpl : (backTo pos (starEach es X.env)).any (·.1) = false := by rfl) :
    PE X (.Call (.Name x p) (e :: es) [] pos) (tClH n S W t) := by
  obtain ⟨f, fd, ps, F, b, hm, kp⟩ := c.ex
  exact L2H.pe_callH F (hr.mono hk) hc hg hm kp b (L2N.passAt tk) ha hdb he hpl
theorem we_clH (h : Wa W E t r m fun ds m1 => ds.length = n ∧ S ds m1 K fun x m' => E x r m') : We W E (tClH n S W t) r m K := fun s H Q e z g =>
  h s H _ e z fun ds m1 vs H1 st mu rs q => spD_of q.1 (e.step st mu) (z.step st) (g.step st) rs q.2 fun _ _ q => q
end
end DL
set_option Elab.async false
set_option linter.all false
set_option maxRecDepth 100000
/-! DL4: operators. -/
namespace DL
open PySem PySem.Spec L2
open PyProof.Rows hiding St

/-! ### an own class's operator -/
/-- the class at C takes the special method nm: n values, the promise S -/
structure Opr (G : Gx) (k : Nat) (C : Addr) (nm : Str) (n : Nat) (S : SpecD) : Prop where
  ex : ∃ f, Fnx G k f n S [] ∧ PySem.W.findIn G.K (.ref C) nm = some (some (.ref f)) ∧ PySem.W.isFn G.K (.ref f) = true
  cl : Cls G.K C
  sf : PySem.W.selfFirst G.K C = true
theorem back_of {X : Cx} {pins : List (Addr × Obj)} {σ : L2.St} {Q : VK} {u : Value} {s : Shared} (h : EP X pins σ Q u s) : PySem.W.CmpBack (EP X pins σ Q) u s := by
  obtain ⟨v, H, I, r, q⟩ := id h
  cases u <;> first | exact h | (cases v <;> first | (obtain ⟨t, e⟩ := r; cases e) | cases r)
section
variable {X : Cx} {W : WX} {j : Nat}
def oOwn2 (G : Gx) (j : Nat) (W : WX) (nm : Str) : O2 := fun x y σ H Q => ∃ (a b C dx dy : Addr) (fs gs : List (Str × V)) (k : Nat) (S : SpecD), x = .ref a ∧ y = .ref b ∧ H a = some (.ins C dx fs) ∧ H b = some (.ins C dy gs) ∧ k ≤ j ∧ Opr G k C nm 2 S ∧ spD 2 S [x, y] H Q (WE W σ)
theorem inst_of {pins : List (Addr × Obj)} {σ : L2.St} {H : Hp} {s : Shared} {a C dx : Addr} {fs : List (Str × V)} (I : Inv X pins σ H s) (e : H a = some (.ins C dx fs)) : ∃ od, PySem.W.InstAt s.heap a (PySem.W.instObj C dx) C od := by
  obtain ⟨mA, O, _⟩ := ins_get I.hok e
  obtain ⟨od, J, _⟩ := O.look
  exact ⟨_, J⟩
theorem os_own2 (hr : Room j X.A) (tk : L2N.Takes X W) {op : Operator} : OpS X (binaryOp op) (oOwn2 (Gx.of X) j W (PySem.dunder op.info.2)) := by
  intro pins s σ H x y u v Q I rx ry h
  obtain ⟨a, b, C, dx, dy, fs, gs, k, S, rfl, rfl, ha, hb, hk, O, q⟩ := h
  obtain rfl : u = Value.ref a := rx
  obtain rfl : v = Value.ref b := ry
  obtain ⟨f, ⟨⟨fd, ps, ds, F, bd, d⟩, cs⟩, h1, h2⟩ := O.ex
  obtain ⟨od, J⟩ := inst_of I ha
  obtain ⟨od', J'⟩ := inst_of I hb
  obtain ⟨m, fr⟩ := I.fr
  refine PySem.W.binop_K fr I.ok.mod.kin J J'.type O.sf h1 h2 ?_
  refine wpAny_mono (run_fnSD (E := WE W) (us := [.ref a, .ref b]) (vs := [.ref a, .ref b]) F (hr.mono hk) bd d (L2N.passAt tk σ) I (.cons rfl (.cons rfl .nil)) q) (fun r s' hq => back_of hq) fun _ _ z => z
def oOwn1 (G : Gx) (j : Nat) (W : WX) (nm : Str) : O1 := fun x σ H Q => ∃ (a C dx : Addr) (fs : List (Str × V)) (k : Nat) (S : SpecD), x = .ref a ∧ H a = some (.ins C dx fs) ∧ k ≤ j ∧ Opr G k C nm 1 S ∧ spD 1 S [x] H Q (WE W σ)
theorem us_own (hr : Room j X.A) (tk : L2N.Takes X W) : UnS X (unaryOp .USub) (oOwn1 (Gx.of X) j W "__neg__") := by
  intro pins s σ H x u Q I rx h
  obtain ⟨a, C, dx, fs, k, S, rfl, ha, hk, O, q⟩ := h
  obtain rfl : u = Value.ref a := rx
  obtain ⟨f, ⟨⟨fd, ps, ds, F, bd, d⟩, cs⟩, h1, h2⟩ := O.ex
  obtain ⟨od, J⟩ := inst_of I ha
  obtain ⟨m, fr⟩ := I.fr
  exact PySem.W.ksp_neg fr I.ok.mod.kin J h1 h2 (run_fnSD (E := WE W) (us := [.ref a]) (vs := [.ref a]) F (hr.mono hk) bd d (L2N.passAt tk σ) I (.cons rfl .nil) q)

/-! ### the operators as unions -/
def CDivX (_ j : Int) : Prop := j ≠ 0 ∧ j.natAbs.log2 < 9000
theorem op_fdivX : OpR X (binaryOp .FloorDiv) (rI CDivX fun i j => .int (i.fdiv j)) := opI fun i j _ _ _ _ _ hc q => PyProof.Rows.floordiv_int hc.1 q (.inl (PyProof.noPylong_of_log2 hc.2))
def CMulX (i j : Int) : Prop := i.natAbs.log2 + j.natAbs.log2 < 100000000
theorem CMulX.ok {i j : Int} (h : CMulX i j) : IntMulOk i j := by
  have b : ∀ x : Int, Builtin.Int.intBits x ≤ x.natAbs.log2 + 1 := fun x => by
    unfold Builtin.Int.intBits
    split <;> omega
  have h1 := b i
  have h2 := b j
  have h3 : i.natAbs.log2 + j.natAbs.log2 < 100000000 := h
  have e : bitsLine = 134217728 := by decide
  unfold IntMulOk
  intro z
  rw [Bool.and_eq_true] at z
  have z2 := z.2
  unfold Builtin.Int.intTooBig at z2
  have z3 := of_decide_eq_true z2
  rw [e] at z3
  omega
theorem op_mulX : OpR X (binaryOp .Mult) (rI CMulX fun i j => .int (i * j)) := opI fun _ _ _ _ _ _ _ hc q => PyProof.Rows.mul_int q hc.ok
def rStrAdd : R2 := fun x y H Q => ∃ i j, x = .str i ∧ y = .str j ∧ i.length + j.length ≤ sizeLine ∧ Q (.str (i ++ j)) H
def oAdd (G : Gx) (j : Nat) (W : WX) : O2 := fun x y s H Q => rI0 (fun i j => .int (i + j)) x y H Q ∨ (rStrAdd x y H Q ∨ (rCat x y H Q ∨ (rCatT G.K x y H Q ∨ oOwn2 G j W "__add__" x y s H Q)))
theorem os_add (hr : Room j X.A) (tk : L2N.Takes X W) : OpS X (binaryOp .Add) (oAdd (Gx.of X) j W) := (OpS.of op_add).or ((OpS.of op_add_str).or ((OpS.of op_cat).or ((OpS.of op_catT).or (os_own2 hr tk))))
def oSub (G : Gx) (j : Nat) (W : WX) : O2 := fun x y s H Q => rI0 (fun i j => .int (i - j)) x y H Q ∨ oOwn2 G j W "__sub__" x y s H Q
theorem os_sub (hr : Room j X.A) (tk : L2N.Takes X W) : OpS X (binaryOp .Sub) (oSub (Gx.of X) j W) := (OpS.of op_sub).or (os_own2 hr tk)
def oMul (G : Gx) (j : Nat) (W : WX) : O2 := fun x y s H Q => rI CMulX (fun i j => .int (i * j)) x y H Q ∨ (rRep x y H Q ∨ oOwn2 G j W "__mul__" x y s H Q)
theorem os_mul (hr : Room j X.A) (tk : L2N.Takes X W) : OpS X (binaryOp .Mult) (oMul (Gx.of X) j W) := (OpS.of op_mulX).or ((OpS.of op_rep).or (os_own2 hr tk))
def oFdiv : O2 := fun x y _ H Q => rI CDivX (fun i j => .int (i.fdiv j)) x y H Q
theorem os_fdiv : OpS X (binaryOp .FloorDiv) oFdiv := OpS.of op_fdivX
def oMod : O2 := fun x y _ H Q => rI (fun _ j => j ≠ 0) (fun i j => .int (i.fmod j)) x y H Q
theorem os_mod : OpS X (binaryOp .Mod) oMod := OpS.of op_modN
def oPow : O2 := fun x y _ H Q => rI CPow (fun i j => .int (i ^ j.toNat)) x y H Q
theorem os_pow : OpS X (binaryOp .Pow) oPow := OpS.of op_pow
def oNeg (G : Gx) (j : Nat) (W : WX) : O1 := fun x s H Q => rU (fun i => .int (-i)) x H Q ∨ oOwn1 G j W "__neg__" x s H Q
theorem us_neg (hr : Room j X.A) (tk : L2N.Takes X W) : UnS X (unaryOp .USub) (oNeg (Gx.of X) j W) := (UnS.of un_neg).or (us_own hr tk)
/-! comparisons -/
def oLt : O2 := fun x y _ H Q => rI0 (fun i j => .bl (decide (i < j))) x y H Q
def oLe : O2 := fun x y _ H Q => rI0 (fun i j => .bl (decide (i ≤ j))) x y H Q
def oGt : O2 := fun x y _ H Q => rI0 (fun i j => .bl (decide (j < i))) x y H Q
def oGe : O2 := fun x y _ H Q => rI0 (fun i j => .bl (decide (j ≤ i))) x y H Q
theorem os_lt : OpS X (compareOp .Lt) oLt := OpS.of op_lt
theorem os_le : OpS X (compareOp .LtE) oLe := OpS.of op_le
theorem os_gt : OpS X (compareOp .Gt) oGt := OpS.of op_gt
theorem os_ge : OpS X (compareOp .GtE) oGe := OpS.of op_ge
def rIsN' : R2 := fun x y H Q => y = .non ∧ Q (.bl (decide (x = .non))) H
def rNotN' : R2 := fun x y H Q => y = .non ∧ Q (.bl (!decide (x = .non))) H
def oIs : O2 := fun x y _ H Q => rIsN' x y H Q ∨ rIsB x y H Q
def oIsNot : O2 := fun x y _ H Q => rNotN' x y H Q ∨ rNotB x y H Q
theorem os_is : OpS X (compareOp .Is) oIs := OpS.or (OpS.of op_isN) (OpS.of op_isBl)
theorem os_isnot : OpS X (compareOp .IsNot) oIsNot := OpS.or (OpS.of op_notN) (OpS.of op_notBl)
def oEq (G : Gx) (j : Nat) (W : WX) : O2 := fun x y _ H Q => rEq x y H Q
def oNe (G : Gx) (j : Nat) (W : WX) : O2 := fun x y _ H Q => rNe x y H Q
theorem os_eq (hr : Room j X.A) (tk : L2N.Takes X W) : OpS X (compareOp .Eq) (oEq (Gx.of X) j W) := OpS.of op_eq
theorem os_ne (hr : Room j X.A) (tk : L2N.Takes X W) : OpS X (compareOp .NotEq) (oNe (Gx.of X) j W) := OpS.of op_ne
/-! .. within an except suite: numbers, texts alone -/
def oEqH : O2 := fun x y _ H Q => rEq x y H Q
def oNeH : O2 := fun x y _ H Q => rNe x y H Q
theorem os_eqH : OpS X (compareOp .Eq) oEqH := OpS.of op_eq
theorem os_neH : OpS X (compareOp .NotEq) oNeH := OpS.of op_ne
def oMulH : O2 := fun x y _ H Q => rI CMulX (fun i j => .int (i * j)) x y H Q
theorem os_mulH : OpS X (binaryOp .Mult) oMulH := OpS.of op_mulX
def oAddH : O2 := fun x y _ H Q => rI0 (fun i j => .int (i + j)) x y H Q
theorem os_addH : OpS X (binaryOp .Add) oAddH := OpS.of op_add
def oSubH : O2 := fun x y _ H Q => rI0 (fun i j => .int (i - j)) x y H Q
theorem os_subH : OpS X (binaryOp .Sub) oSubH := OpS.of op_sub
def oNegH : O1 := fun x _ H Q => rU (fun i => .int (-i)) x H Q
theorem us_negH : UnS X (unaryOp .USub) oNegH := UnS.of un_neg
end

/-! ### what they do to trees -/
section
variable {W : WX} {E : ET} {r : Rho} {m : Mu} {K : KT} {G : Gx} {j : Nat} {i k : Int} {te ta tb tc : TE} {t : TA} {o o' : O2} {o1 : O1} {oc : OC}
theorem w2_val {o : O2} {x y d : D} {vx vy v : V} (hx : ∀ M H w, Rep M H x w → w = vx) (hy : ∀ M H w, Rep M H y w → w = vy) (hd : ∀ M H, Rep M H d v) (ho : ∀ s H (Q : VK), Q v H → o vx vy s H Q) (k : K d m) : W2 W E o x y r m K := fun s H Q a b e z ra rb g => by
  rw [hx _ _ _ ra, hy _ _ _ rb]
  exact ho s H Q (g d m v H (Stp.refl _ _) e.mu (hd _ _) k)
theorem rint {M : Addr → Prop} {H : Hp} {i : Int} {w : V} (h : Rep M H (.int i) w) : w = .int i := by cases h; rfl
theorem rstr {M : Addr → Prop} {H : Hp} {i : Str} {w : V} (h : Rep M H (.str i) w) : w = .str i := by cases h; rfl
theorem rbl {M : Addr → Prop} {H : Hp} {i : Bool} {w : V} (h : Rep M H (.bl i) w) : w = .bl i := by cases h; rfl
theorem rnon {M : Addr → Prop} {H : Hp} {w : V} (h : Rep M H .non w) : w = .non := by cases h; rfl
theorem w2_add (h : K (.int (i + k)) m) : W2 W E (oAdd G j W) (.int i) (.int k) r m K := w2_val (fun _ _ _ => rint) (fun _ _ _ => rint) (fun _ _ => .int _) (fun _ _ _ q => .inl ⟨i, k, rfl, rfl, q⟩) h
theorem w2_sub (h : K (.int (i - k)) m) : W2 W E (oSub G j W) (.int i) (.int k) r m K := w2_val (fun _ _ _ => rint) (fun _ _ _ => rint) (fun _ _ => .int _) (fun _ _ _ q => .inl ⟨i, k, rfl, rfl, q⟩) h
theorem w2_mul (h : CMulX i k ∧ K (.int (i * k)) m) : W2 W E (oMul G j W) (.int i) (.int k) r m K := w2_val (fun _ _ _ => rint) (fun _ _ _ => rint) (fun _ _ => .int _) (fun _ _ _ q => .inl ⟨i, k, rfl, rfl, h.1, q⟩) h.2
theorem w2_fdiv (h : CDivX i k ∧ K (.int (i.fdiv k)) m) : W2 W E oFdiv (.int i) (.int k) r m K := w2_val (fun _ _ _ => rint) (fun _ _ _ => rint) (fun _ _ => .int _) (fun _ _ _ q => ⟨i, k, rfl, rfl, h.1, q⟩) h.2
theorem w2_mod (h : k ≠ 0 ∧ K (.int (i.fmod k)) m) : W2 W E oMod (.int i) (.int k) r m K := w2_val (fun _ _ _ => rint) (fun _ _ _ => rint) (fun _ _ => .int _) (fun _ _ _ q => ⟨i, k, rfl, rfl, h.1, q⟩) h.2
theorem w2_pow (h : CPow i k ∧ K (.int (i ^ k.toNat)) m) : W2 W E oPow (.int i) (.int k) r m K := w2_val (fun _ _ _ => rint) (fun _ _ _ => rint) (fun _ _ => .int _) (fun _ _ _ q => ⟨i, k, rfl, rfl, h.1, q⟩) h.2
theorem w2_lt (h : K (.bl (decide (i < k))) m) : W2 W E oLt (.int i) (.int k) r m K := w2_val (fun _ _ _ => rint) (fun _ _ _ => rint) (fun _ _ => .bl _) (fun _ _ _ q => ⟨i, k, rfl, rfl, q⟩) h
theorem w2_le (h : K (.bl (decide (i ≤ k))) m) : W2 W E oLe (.int i) (.int k) r m K := w2_val (fun _ _ _ => rint) (fun _ _ _ => rint) (fun _ _ => .bl _) (fun _ _ _ q => ⟨i, k, rfl, rfl, q⟩) h
theorem w2_gt (h : K (.bl (decide (k < i))) m) : W2 W E oGt (.int i) (.int k) r m K := w2_val (fun _ _ _ => rint) (fun _ _ _ => rint) (fun _ _ => .bl _) (fun _ _ _ q => ⟨i, k, rfl, rfl, q⟩) h
theorem w2_ge (h : K (.bl (decide (k ≤ i))) m) : W2 W E oGe (.int i) (.int k) r m K := w2_val (fun _ _ _ => rint) (fun _ _ _ => rint) (fun _ _ => .bl _) (fun _ _ _ q => ⟨i, k, rfl, rfl, q⟩) h
theorem w2_eqI (h : K (.bl (decide (i = k))) m) : W2 W E (oEq G j W) (.int i) (.int k) r m K := w2_val (fun _ _ _ => rint) (fun _ _ _ => rint) (fun _ _ => .bl _) (fun _ _ _ q => ⟨rfl, by rw [dec_int, ← Bool.beq_eq_decide_eq] at *; exact q⟩) h
theorem w2_neI (h : K (.bl (!decide (i = k))) m) : W2 W E (oNe G j W) (.int i) (.int k) r m K := w2_val (fun _ _ _ => rint) (fun _ _ _ => rint) (fun _ _ => .bl _) (fun _ _ _ q => ⟨rfl, by rw [dec_int, ← Bool.beq_eq_decide_eq] at *; exact q⟩) h
theorem w2_eqIH (h : K (.bl (decide (i = k))) m) : W2 W E oEqH (.int i) (.int k) r m K := w2_val (fun _ _ _ => rint) (fun _ _ _ => rint) (fun _ _ => .bl _) (fun _ _ _ q => ⟨rfl, by rw [dec_int, ← Bool.beq_eq_decide_eq] at *; exact q⟩) h
theorem w2_neIH (h : K (.bl (!decide (i = k))) m) : W2 W E oNeH (.int i) (.int k) r m K := w2_val (fun _ _ _ => rint) (fun _ _ _ => rint) (fun _ _ => .bl _) (fun _ _ _ q => ⟨rfl, by rw [dec_int, ← Bool.beq_eq_decide_eq] at *; exact q⟩) h
theorem w2_mulH (h : CMulX i k ∧ K (.int (i * k)) m) : W2 W E oMulH (.int i) (.int k) r m K := w2_val (fun _ _ _ => rint) (fun _ _ _ => rint) (fun _ _ => .int _) (fun _ _ _ q => ⟨i, k, rfl, rfl, h.1, q⟩) h.2
theorem w2_addH (h : K (.int (i + k)) m) : W2 W E oAddH (.int i) (.int k) r m K := w2_val (fun _ _ _ => rint) (fun _ _ _ => rint) (fun _ _ => .int _) (fun _ _ _ q => ⟨i, k, rfl, rfl, q⟩) h
theorem w2_subH (h : K (.int (i - k)) m) : W2 W E oSubH (.int i) (.int k) r m K := w2_val (fun _ _ _ => rint) (fun _ _ _ => rint) (fun _ _ => .int _) (fun _ _ _ q => ⟨i, k, rfl, rfl, q⟩) h
theorem w1_negH (h : K (.int (-i)) m) : W1 W E oNegH (.int i) r m K := fun s H Q v e z rv g => by
  cases rv
  exact ⟨i, rfl, g _ m _ H (Stp.refl _ _) e.mu (.int _) h⟩
def isNon : D → Bool
  | .non => true
  | _ => false
theorem rep_non {M : Addr → Prop} {H : Hp} {d : D} {v : V} (h : Rep M H d v) : decide (v = V.non) = isNon d := by
  cases h <;> rfl
theorem w2_isN {d : D} (h : K (.bl (isNon d)) m) : W2 W E oIs d .non r m K := fun s H Q a b e z ra rb g => by
  cases rb
  exact .inl ⟨rfl, g _ m _ H (Stp.refl _ _) e.mu (by rw [rep_non ra]; exact .bl _) h⟩
theorem w2_notN {d : D} (h : K (.bl (!isNon d)) m) : W2 W E oIsNot d .non r m K := fun s H Q a b e z ra rb g => by
  cases rb
  exact .inl ⟨rfl, g _ m _ H (Stp.refl _ _) e.mu (by rw [rep_non ra]; exact .bl _) h⟩
theorem w2_isB {a b : Bool} (h : K (.bl (decide (a = b))) m) : W2 W E oIs (.bl a) (.bl b) r m K := w2_val (fun _ _ _ => rbl) (fun _ _ _ => rbl) (fun _ _ => .bl _) (fun _ _ _ q => .inr ⟨a, b, rfl, rfl, q⟩) h
theorem w2_notB {a b : Bool} (h : K (.bl (!decide (a = b))) m) : W2 W E oIsNot (.bl a) (.bl b) r m K := w2_val (fun _ _ _ => rbl) (fun _ _ _ => rbl) (fun _ _ => .bl _) (fun _ _ _ q => .inr ⟨a, b, rfl, rfl, q⟩) h
theorem w1_neg (h : K (.int (-i)) m) : W1 W E (oNeg G j W) (.int i) r m K := fun s H Q v e z rv g => by
  cases rv
  exact .inl ⟨i, rfl, g _ m _ H (Stp.refl _ _) e.mu (.int _) h⟩
/-- the fields of an instance, fixed or mutable -/
inductive FldD : D → Mu → Addr → List Str → List D → Prop
  | fixed {m : Mu} {C : Addr} {ns : List Str} {ds : List D} : FldD (.ins C ns ds) m C ns ds
  | mutb {m : Mu} {C a : Addr} {ns : List Str} {ds : List D} (h : At m a (.ins C ns ds)) : FldD (.ref a) m C ns ds
theorem FldD.look {d : D} {m : Mu} {C : Addr} {ns : List Str} {ds : List D} {H : Hp} {v : V} (i : FldD d m C ns ds) (mu : MutR m H) (rp : Rep (dom m) H d v) : ∃ a dx gs, v = .ref a ∧ H a = some (.ins C dx gs) ∧ RepF (dom m) H ns ds gs := by
  cases i with
  | fixed =>
    cases rp with
    | ins mm h rf => exact ⟨_, _, _, rfl, h, rf⟩
  | mutb h =>
    cases rp
    have q := h.rep mu
    cases q with
    | ins h rf => exact ⟨_, _, _, rfl, h, rf⟩
theorem w2_own {d d' : D} {C : Addr} {ns ns' : List Str} {ds ds' : List D} {nm : Str} {k : Nat} {S : SpecD} (O : Opr G k C nm 2 S) (hk : k ≤ j) (i : FldD d m C ns ds) (i' : FldD d' m C ns' ds')
    (h : S [d, d'] m K fun x m' => E x r m') : W2 W E (oOwn2 G j W nm) d d' r m K := fun s H Q a b e z ra rb g => by
  obtain ⟨p, dx, gs, rfl, hp, _⟩ := i.look e.mu ra
  obtain ⟨p', dx', gs', rfl, hp', _⟩ := i'.look e.mu rb
  exact ⟨p, p', C, dx, dx', gs, gs', k, S, rfl, rfl, hp, hp', hk, O, spD_of rfl e z g (.cons ra (.cons rb .nil)) h fun _ _ q => q⟩
theorem w1_own {d : D} {C : Addr} {ns : List Str} {ds : List D} {nm : Str} {k : Nat} {S : SpecD} (O : Opr G k C nm 1 S) (hk : k ≤ j) (i : FldD d m C ns ds)
    (h : S [d] m K fun x m' => E x r m') : W1 W E (oOwn1 G j W nm) d r m K := fun s H Q a e z ra g => by
  obtain ⟨p, dx, gs, rfl, hp, _⟩ := i.look e.mu ra
  exact ⟨p, C, dx, gs, k, S, rfl, hp, hk, O, spD_of rfl e z g (.cons ra .nil) h fun _ _ q => q⟩
end
end DL
set_option Elab.async false
set_option linter.all false
set_option maxRecDepth 100000
/-! DL5: expressions, tests, statements, loops over trees. -/
namespace DL
open PySem PySem.Spec L2
open PyProof.Rows hiding St

section
variable {W : WX} {E : ET} {r : Rho} {m : Mu} {K : KT} {G : Gx} {j : Nat} {te ta tb tc : TE} {t u : TT} {a : TA} {o o' : O2} {o1 : O1} {oc : OC} {KB : Bool → Mu → Prop} {KA : List D → Mu → Prop}
/-! ### arguments, displays -/
theorem wa_nil (h : KA [] m) : Wa W E tNil r m KA := fun s H Q e z g => g [] m [] H (Stp.refl _ _) e.mu .nil h
theorem wa_cons (h : We W E te r m fun d m1 => Wa W E a r m1 fun ds m2 => KA (d :: ds) m2) : Wa W E (tCons te a) r m KA := fun s H Q e z g =>
  h s H _ e z fun d m1 v H1 s1 mu1 r1 q1 => q1 s H1 _ (e.step s1 mu1) (z.step s1) fun ds m2 vs H2 s2 mu2 r2 q2 => g _ m2 _ H2 (s1.trans s2) mu2 (.cons (r1.mono s2) r2) q2
theorem size_of {n : Nat} (h : Nat.ble n 1000 = true) : n ≤ sizeLine := Nat.le_trans (Nat.le_of_ble_eq_true h) (by decide)
theorem we_tup (h : Wa W E a r m fun ds m1 => Nat.ble ds.length 1000 = true ∧ K (.tup ds) m1) : We W E (tTup a) r m K := fun s H Q e z g =>
  h s H _ e z fun ds m1 vs H1 s1 mu1 r1 q1 => ⟨by rw [← r1.length]; exact size_of q1.1, fun p hp =>
    g _ m1 _ _ (s1.trans (Stp.new hp)) (mu1.new hp) (.tup (fun z => by obtain ⟨u, hu⟩ := mu1.there z; rw [hp] at hu; cases hu) (.inl upd_same) (r1.mono (Stp.new hp))) q1.2⟩
theorem we_lst (h : Wa W E a r m fun ds m1 => Nat.ble ds.length 1000 = true ∧ K (.lst ds) m1) : We W E (tLst a) r m K := fun s H Q e z g =>
  h s H _ e z fun ds m1 vs H1 s1 mu1 r1 q1 => ⟨by rw [← r1.length]; exact size_of q1.1, fun p hp =>
    g _ m1 _ _ (s1.trans (Stp.new hp)) (mu1.new hp) (.lst (fun z => by obtain ⟨u, hu⟩ := mu1.there z; rw [hp] at hu; cases hu) (.inl upd_same) (r1.mono (Stp.new hp))) q1.2⟩
/-- a list that will be changed -/
theorem we_lstM (h : Wa W E a r m fun ds m1 => Nat.ble ds.length 1000 = true ∧ ∀ p, ¬ dom m1 p → K (.ref p) ((p, .lst ds) :: m1)) : We W E (tLst a) r m K := fun s H Q e z g =>
  h s H _ e z fun ds m1 vs H1 s1 mu1 r1 q1 => ⟨by rw [← r1.length]; exact size_of q1.1, fun p hp =>
    g _ _ _ _ (s1.trans (Stp.newM (x := .lst ds) hp)) (mu1.newM hp (.lst upd_same (r1.mono (Stp.newM hp)))) (.ref p) (q1.2 p fun z => by obtain ⟨u, hu⟩ := mu1.there z; rw [hp] at hu; cases hu)⟩

/-! ### fields -/
theorem we_fld {f : Str} (h : We W E te r m fun d m1 => ∃ C ns ds x, FldD d m1 C ns ds ∧ Cls G.K C ∧ NoAttr G.K C f ∧ fix f ns ds = some x ∧ K x m1) : We W E (tFld G.K te f) r m K := fun s H Q e z g =>
  h s H _ e z fun d m1 v H1 s1 mu1 r1 q => by
    obtain ⟨C, ns, ds, x, i, c, n, hf, k⟩ := q
    obtain ⟨p, dx, gs, rfl, hp, rf⟩ := i.look mu1 r1
    obtain ⟨y, h1, h2⟩ := rf.look hf
    exact ⟨p, C, dx, gs, y, rfl, hp, c, n, h1, g x m1 y H1 s1 mu1 h2 k⟩

/-! ### subscripts -/
theorem atI_reps {M : Addr → Prop} {H : Hp} {ds : List D} {vs : List V} {i : Int} {d : D} (h : Reps M H ds vs) (e : atI ds i = some d) : ∃ v, atI vs i = some v ∧ Rep M H d v := by
  unfold atI at *
  rw [h.length] at e
  cases q : ixN vs.length i with
  | none => rw [q] at e; cases e
  | some k =>
    rw [q] at e
    exact h.get e
abbrev oIx (G : Gx) : O2 := fun x y _ H Q => rIx G.K x y H Q
theorem rd_l {K : PySem.W.Frag} {H : Hp} {a : Addr} {vs : List V} (h : Rd H a (.lst vs)) : SqL K H a vs := .inl h
theorem rd_t {K : PySem.W.Frag} {H : Hp} {a : Addr} {vs : List V} (h : Rd H a (.tup vs)) : SqT K H a vs := .inl h
theorem w2_ixT {ds : List D} {i : Int} {d : D} (h : atI ds i = some d ∧ K d m) : W2 W E (oIx G) (.tup ds) (.int i) r m K := fun s H Q x y e z rx ry g => by
  cases ry
  cases rx with
  | tup mm hh rs =>
    obtain ⟨v, h1, h2⟩ := atI_reps rs h.1
    exact .inr (.inl ⟨_, _, i, v, rfl, rfl, rd_t hh, h1, g d m v H (Stp.refl _ _) e.mu h2 h.2⟩)
theorem w2_ixL {ds : List D} {i : Int} {d : D} (h : atI ds i = some d ∧ K d m) : W2 W E (oIx G) (.lst ds) (.int i) r m K := fun s H Q x y e z rx ry g => by
  cases ry
  cases rx with
  | lst mm hh rs =>
    obtain ⟨v, h1, h2⟩ := atI_reps rs h.1
    exact .inl ⟨_, _, i, v, rfl, rfl, rd_l hh, h1, g d m v H (Stp.refl _ _) e.mu h2 h.2⟩
theorem w2_ixM {p : Addr} {ds : List D} {i : Int} {d : D} (hp : At m p (.lst ds)) (h : atI ds i = some d ∧ K d m) : W2 W E (oIx G) (.ref p) (.int i) r m K := fun s H Q x y e z rx ry g => by
  cases ry
  cases rx
  have q := hp.rep e.mu
  cases q with
  | lst hh rs =>
    obtain ⟨v, h1, h2⟩ := atI_reps rs h.1
    exact .inl ⟨_, _, i, v, rfl, rfl, SqL.of hh, h1, g d m v H (Stp.refl _ _) e.mu h2 h.2⟩
theorem we_op {rr : R2} (h : We W E ta r m fun x m1 => We W E tb r m1 fun y m2 => W2 W E (fun x y _ H Q => rr x y H Q) x y r m2 K) : We W E (tOp rr ta tb) r m K := we_2 h

/-! ### chains, truth -/
theorem we_3 (h : We W E ta r m fun x m1 => We W E tb r m1 fun y m2 => W2 W E o x y r m2 fun d m3 => ∃ b, d = .bl b ∧ (b = true → We W E tc r m3 fun w m4 => W2 W E o' y w r m4 K) ∧ (b = false → K (.bl false) m3)) : We W E (t3 o o' ta tb tc) r m K := fun s H Q e z g =>
  h s H _ e z fun x m1 v H1 s1 mu1 r1 h1 => h1 s H1 _ (e.step s1 mu1) (z.step s1) fun y m2 w H2 s2 mu2 r2 h2 => by
    have e2 := (e.step s1 mu1).step s2 mu2
    have z2 := (z.step s1).step s2
    refine h2 s H2 _ v w e2 z2 (r1.mono s2) r2 fun d m3 c H3 s3 mu3 r3 h3 => ?_
    obtain ⟨b, rfl, ht, hf⟩ := h3
    cases r3
    refine ⟨b, rfl, ?_⟩
    cases b with
    | true =>
      rw [if_pos rfl]
      exact ht rfl s H3 _ (e2.step s3 mu3) (z2.step s3) fun w' m4 cv H4 s4 mu4 r4 h4 =>
        h4 s H4 Q w cv ((e2.step s3 mu3).step s4 mu4) ((z2.step s3).step s4) ((r2.mono s3).mono s4) r4 ((((g.step s1).step s2).step s3).step s4)
    | false =>
      rw [if_neg Bool.false_ne_true]
      exact g _ m3 _ H3 ((s1.trans s2).trans s3) mu3 (.bl _) (hf rfl)
theorem wt_test (h : We W E te r m fun d m1 => ∃ b, d = .bl b ∧ KB b m1) : Wt W E (tTest te) r m KB := fun s H Q e z g =>
  h s H _ e z fun d m1 v H1 s1 mu1 r1 q => by
    obtain ⟨b, rfl, k⟩ := q
    cases r1
    exact ⟨b, rfl, g b m1 H1 s1 mu1 k⟩
theorem wt_B (h : We W E te r m fun d m1 => ∃ b, d = .bl b ∧ KB b m1) : Wt W E (tB te) r m KB := wt_test h
/-- the truth of a tree -/
inductive TruD : D → Mu → Bool → Prop
  | non {m : Mu} : TruD .non m false
  | bl {m : Mu} {b : Bool} : TruD (.bl b) m b
  | int {m : Mu} {i : Int} : TruD (.int i) m (i != 0)
  | tup {m : Mu} {xs : List D} : TruD (.tup xs) m (!xs.isEmpty)
  | lst {m : Mu} {xs : List D} : TruD (.lst xs) m (!xs.isEmpty)
  | mutb {m : Mu} {p : Addr} {xs : List D} (h : At m p (.lst xs)) : TruD (.ref p) m (!xs.isEmpty)
theorem reps_empty {M : Addr → Prop} {H : Hp} {ds : List D} {vs : List V} (h : Reps M H ds vs) : ds.isEmpty = vs.isEmpty := by cases h <;> rfl
theorem TruD.ok {d : D} {b : Bool} {H : Hp} {v : V} (h : TruD d m b) (mu : MutR m H) (rp : Rep (dom m) H d v) : TruV G.K v H b := by
  cases h with
  | non => cases rp; rfl
  | bl => cases rp; rfl
  | int => cases rp; rfl
  | tup =>
    cases rp with
    | tup mm hh rs => exact .inr (.inl ⟨_, rd_t hh, by rw [reps_empty rs]⟩)
  | lst =>
    cases rp with
    | lst mm hh rs => exact .inl ⟨_, rd_l hh, by rw [reps_empty rs]⟩
  | mutb h =>
    cases rp
    have q := h.rep mu
    cases q with
    | lst hh rs => exact .inl ⟨_, SqL.of hh, by rw [reps_empty rs]⟩
theorem wt_tr (h : We W E te r m fun d m1 => ∃ b, TruD d m1 b ∧ KB b m1) : Wt W E (tTr G.K te) r m KB := fun s H Q e z g =>
  h s H _ e z fun d m1 v H1 s1 mu1 r1 q => by
    obtain ⟨b, t, k⟩ := q
    exact ⟨b, t.ok mu1 r1, g b m1 H1 s1 mu1 k⟩
theorem wt_and (h : Wt W E t r m fun b m1 => (b = true → Wt W E u r m1 KB) ∧ (b = false → KB false m1)) : Wt W E (tAnd t u) r m KB := fun s H Q e z g =>
  h s H _ e z fun b m1 H1 s1 mu1 q => by
    cases b with
    | true => exact q.1 rfl s H1 Q (e.step s1 mu1) (z.step s1) fun b m2 H2 a c k => g b m2 H2 (s1.trans a) c k
    | false => exact g false m1 H1 s1 mu1 (q.2 rfl)
theorem wt_or (h : Wt W E t r m fun b m1 => (b = true → KB true m1) ∧ (b = false → Wt W E u r m1 KB)) : Wt W E (tOr t u) r m KB := fun s H Q e z g =>
  h s H _ e z fun b m1 H1 s1 mu1 q => by
    cases b with
    | true => exact g true m1 H1 s1 mu1 (q.1 rfl)
    | false => exact q.2 rfl s H1 Q (e.step s1 mu1) (z.step s1) fun b m2 H2 a c k => g b m2 H2 (s1.trans a) c k
theorem wt_not (h : Wt W E t r m fun b m1 => KB (!b) m1) : Wt W E (tNot t) r m KB := fun s H Q e z g =>
  h s H _ e z fun b m1 H1 s1 mu1 q => g (!b) m1 H1 s1 mu1 q
theorem we_andV (h : We W E ta r m fun d m1 => ∃ b, d = .bl b ∧ (b = true → We W E tb r m1 K) ∧ (b = false → K (.bl false) m1)) : We W E (tAndV ta tb) r m K := fun s H Q e z g =>
  h s H _ e z fun d m1 v H1 s1 mu1 r1 q => by
    obtain ⟨b, rfl, ht, hf⟩ := q
    cases r1
    refine ⟨b, rfl, ?_⟩
    cases b with
    | true =>
      rw [if_pos rfl]
      exact ht rfl s H1 Q (e.step s1 mu1) (z.step s1) (g.step s1)
    | false =>
      rw [if_neg Bool.false_ne_true]
      exact g _ m1 _ H1 s1 mu1 (.bl _) (hf rfl)
theorem we_orV (h : We W E ta r m fun d m1 => ∃ b, d = .bl b ∧ (b = true → K (.bl true) m1) ∧ (b = false → We W E tb r m1 K)) : We W E (tOrV ta tb) r m K := fun s H Q e z g =>
  h s H _ e z fun d m1 v H1 s1 mu1 r1 q => by
    obtain ⟨b, rfl, ht, hf⟩ := q
    cases r1
    refine ⟨b, rfl, ?_⟩
    cases b with
    | false =>
      rw [if_neg Bool.false_ne_true]
      exact hf rfl s H1 Q (e.step s1 mu1) (z.step s1) (g.step s1)
    | true =>
      rw [if_pos rfl]
      exact g _ m1 _ H1 s1 mu1 (.bl _) (ht rfl)
theorem we_notV (h : We W E te r m fun d m1 => ∃ b, d = .bl b ∧ K (.bl (!b)) m1) : We W E (tNotV te) r m K := fun s H Q e z g =>
  h s H _ e z fun d m1 v H1 s1 mu1 r1 q => by
    obtain ⟨b, rfl, k⟩ := q
    cases r1
    exact ⟨b, rfl, g _ m1 _ H1 s1 mu1 (.bl _) k⟩
theorem we_ifx (h : Wt W E t r m fun b m1 => (b = true → We W E ta r m1 K) ∧ (b = false → We W E tb r m1 K)) : We W E (tIf t ta tb) r m K := fun s H Q e z g =>
  h s H _ e z fun b m1 H1 s1 mu1 q => by
    cases b with
    | true => exact q.1 rfl s H1 Q (e.step s1 mu1) (z.step s1) (g.step s1)
    | false => exact q.2 rfl s H1 Q (e.step s1 mu1) (z.step s1) (g.step s1)

/-! ### calls of built-ins -/
def Wc (W : WX) (E : ET) (oc : OC) (ds : List D) (r : Rho) (m : Mu) (K : KT) : Prop := ∀ s H Q vs, EnvR r m s H → Rz W E m H → Reps (dom m) H ds vs → Go m H K Q → oc vs s H Q
theorem we_c2 (h : Wa W E a r m fun ds m1 => Wc W E oc ds r m1 K) : We W E (tC2 oc a) r m K := fun s H Q e z g =>
  h s H _ e z fun ds m1 vs H1 s1 mu1 r1 q => q s H1 Q vs (e.step s1 mu1) (z.step s1) r1 (g.step s1)
end

/-! ### statements -/
section
variable {W : WX} {E : ET} {r : Rho} {m : Mu} {P : DEnds} {G : Gx} {te to : TE} {tt : TT} {ts tu : TS} {i : Nat}
theorem ws_next (h : P.nx r m) : Ws W E tNext r m P := fun s H De e z g => g.nx r m s H (Stp.refl _ _) e h
theorem ws_brk (h : P.bk r m) : Ws W E tBreak r m P := fun s H De e z g => g.bk r m s H (Stp.refl _ _) e h
theorem ws_cont (h : P.ct r m) : Ws W E tCont r m P := fun s H De e z g => g.ct r m s H (Stp.refl _ _) e h
theorem ws_seq (h : Ws W E ts r m { P with nx := fun r' m' => Ws W E tu r' m' P }) : Ws W E (tSeq ts tu) r m P := fun s H De e z g =>
  h s H _ e z ⟨fun r' m' s' H' a b q => q s' H' De b (z.step a) (g.step a), g.rt, g.bk, g.ct⟩
theorem ws_ret (h : We W E te r m P.rt) : Ws W E (tRet te) r m P := fun s H De e z g => h s H _ e z fun d m' v H' a b c k => g.rt d m' v H' a b c k
theorem ws_retN (h : P.rt .non m) : Ws W E tRetN r m P := fun s H De e z g => g.rt .non m .non H (Stp.refl _ _) e.mu .non h
theorem ws_drop (h : We W E te r m fun _ m' => P.nx r m') : Ws W E (tDrop te) r m P := fun s H De e z g => h s H _ e z fun d m' v H' a b c k => g.nx r m' s H' a (e.step a b) k
theorem ws_if (h : Wt W E tt r m fun b m1 => (b = true → Ws W E ts r m1 P) ∧ (b = false → Ws W E tu r m1 P)) : Ws W E (tIfS tt ts tu) r m P := fun s H De e z g =>
  h s H _ e z fun b m1 H1 s1 mu1 q => by
    cases b with
    | true => exact q.1 rfl s H1 De (e.step s1 mu1) (z.step s1) (g.step s1)
    | false => exact q.2 rfl s H1 De (e.step s1 mu1) (z.step s1) (g.step s1)
/-- targets -/
def Wg (W : WX) (E : ET) (g : TG) (d : D) (r : Rho) (m : Mu) (N : Rho → Mu → Prop) : Prop := ∀ s H v Q, EnvR r m s H → Rz W E m H → Rep (dom m) H d v →
  (∀ r' m' s' H', Stp (dom m) H (dom m') H' → EnvR r' m' s' H' → N r' m' → Q s' H') → g v s H Q
def Wgs (W : WX) (E : ET) (g : TGs) (ds : List D) (r : Rho) (m : Mu) (N : Rho → Mu → Prop) : Prop := ∀ s H vs Q, EnvR r m s H → Rz W E m H → Reps (dom m) H ds vs →
  (∀ r' m' s' H', Stp (dom m) H (dom m') H' → EnvR r' m' s' H' → N r' m' → Q s' H') → g vs s H Q
variable {N : Rho → Mu → Prop}
theorem EnvR.put {s : L2.St} {H : Hp} {d : D} {v : V} (e : EnvR r m s H) (rd : Rep (dom m) H d v) : EnvR (r.set i (some d)) m (s.set i (some v)) H := ⟨e.env.set (.some rd) i, e.mu⟩
theorem wg_name {d : D} (h : N (r.set i (some d)) m) : Wg W E (gName i) d r m N := fun s H v Q e z rd g => g _ m _ H (Stp.refl _ _) (e.put rd) h
theorem wgs_nil (h : N r m) : Wgs W E gNil [] r m N := fun s H vs Q e z rd g => by
  cases rd
  exact ⟨rfl, g r m s H (Stp.refl _ _) e h⟩
theorem wgs_cons {g1 : TG} {gs : TGs} {d : D} {ds : List D} (h : Wg W E g1 d r m fun r' m' => Wgs W E gs ds r' m' N) : Wgs W E (gCons g1 gs) (d :: ds) r m N := fun s H vs Q e z rd g => by
  cases rd with
  | cons r1 rt =>
    exact ⟨_, _, rfl, h s H _ _ e z r1 fun r' m' s' H' a b q => q s' H' _ Q b (z.step a) (rt.mono a) fun r2 m2 s2 H2 a2 b2 q2 => g r2 m2 s2 H2 (a.trans a2) b2 q2⟩
theorem wg_tup {gs : TGs} {n : Nat} {ds : List D} (hn : ds.length = n) (h : Wgs W E gs ds r m N) : Wg W E (gTup G.K n gs) (.tup ds) r m N := fun s H v Q e z rd g => by
  cases rd with
  | tup mm hh rs => exact ⟨_, _, rfl, rd_t hh, by rw [← rs.length, hn], h s H _ Q e z rs g⟩
theorem ixN_reps {n k : Nat} {i : Int} (h : ixN n i = some k) : k < n := by
  unfold ixN at h
  split at h
  · split at h
    · cases h; omega
    · cases h
  · split at h
    · cases h; omega
    · cases h
theorem wg_subM {ti : TE} {d : D} (h : We W E to r m fun o m1 => We W E ti r m1 fun i m2 => ∃ p xs k j m3, o = .ref p ∧ i = .int k ∧ At m2 p (.lst xs) ∧ ixN xs.length k = some j ∧ Put m2 p (.lst (xs.set j d)) m3 ∧ N r m3) : Wg W E (gSub to ti rSetL) d r m N := fun s H v Q e z rd g =>
  h s H _ e z fun o m1 vo H1 s1 mu1 r1 q1 => q1 s H1 _ (e.step s1 mu1) (z.step s1) fun i m2 vi H2 s2 mu2 r2 q2 => by
    obtain ⟨p, xs, k, j, m3, rfl, rfl, ha, hj, hp, hn⟩ := q2
    cases r1
    cases r2
    have q := ha.rep mu2
    cases q with
    | lst hh rs =>
      have rd2 := (rd.mono s1).mono s2
      refine ⟨p, _, k, j, rfl, rfl, hh, by rw [← rs.length]; exact hj, ?_⟩
      have st : ∀ o, Stp (dom m2) H2 (dom m3) (upd H2 p o) := fun o => hp.stp
      exact g r m3 s _ ((s1.trans s2).trans (st _)) (((e.step s1 mu1).step s2 mu2).step (st _) (hp.mut mu2 (.lst upd_same ((rs.set rd2 j).mono (st _))))) hn
theorem ws_asg {g : TG} (h : We W E te r m fun d m1 => Wg W E g d r m1 P.nx) : Ws W E (tAsg te g) r m P := fun s H De e z gg =>
  h s H _ e z fun d m1 v H1 s1 mu1 r1 q => q s H1 v De.nx (e.step s1 mu1) (z.step s1) r1 fun r' m' s' H' a b k => gg.nx r' m' s' H' (s1.trans a) b k
theorem ws_par {j : Nat} {a : TA} (h : Wa W E a r m fun ds m1 => ∃ x y, ds = [x, y] ∧ P.nx ((r.set i (some x)).set j (some y)) m1) : Ws W E (tPar i j a) r m P := fun s H De e z g =>
  h s H _ e z fun ds m1 vs H1 s1 mu1 r1 q => by
    obtain ⟨x, y, rfl, k⟩ := q
    cases r1 with
    | cons ra t =>
      cases t with
      | cons rb t =>
        cases t
        exact ⟨_, _, rfl, g.nx _ m1 _ H1 s1 (((e.step s1 mu1).put ra).put rb) k⟩
theorem ws_par3 {j l : Nat} {a : TA} (h : Wa W E a r m fun ds m1 => ∃ x y w, ds = [x, y, w] ∧ P.nx (((r.set i (some x)).set j (some y)).set l (some w)) m1) : Ws W E (tPar3 i j l a) r m P := fun s H De e z g =>
  h s H _ e z fun ds m1 vs H1 s1 mu1 r1 q => by
    obtain ⟨x, y, w, rfl, k⟩ := q
    cases r1 with
    | cons ra t =>
      cases t with
      | cons rb t =>
        cases t with
        | cons rc t =>
          cases t
          exact ⟨_, _, _, rfl, g.nx _ m1 _ H1 s1 ((((e.step s1 mu1).put ra).put rb).put rc) k⟩
/-- self.f = e, a new field -/
theorem putF_new {f : Str} {y : V} : ∀ {fs : List (Str × V)}, f ∉ fs.map (·.1) → putF f y fs = fs ++ [(f, y)]
  | [], _ => rfl
  | (g, v) :: fs, h => by
    have ne : ¬ g = f := fun e => h (by simp [e])
    show (if g = f then _ else _) = _
    rw [if_neg ne, putF_new (fun z => h (by simp [z]))]
    rfl
theorem RepF.snoc {M : Addr → Prop} {H : Hp} {f : Str} {x : D} {y : V} (q : Rep M H x y) : ∀ {n : List Str} {d : List D} {v : List (Str × V)}, RepF M H n d v → RepF M H (n ++ [f]) (d ++ [x]) (v ++ [(f, y)])
  | _, _, _, .nil => .cons q .nil
  | _, _, _, .cons r t => .cons r (RepF.snoc q t)
theorem RepF.lens {M : Addr → Prop} {H : Hp} {n : List Str} {d : List D} {v : List (Str × V)} (h : RepF M H n d v) : v.length = n.length := by rw [← h.names, List.length_map]
theorem ws_fldN {f : Str} (h : We W E te r m fun d m1 => We W E to r m1 fun o m2 => ∃ p C ns ds m3, o = .ref p ∧ At m2 p (.ins C ns ds) ∧ Cls G.K C ∧ NoAttr G.K C f ∧ ns.contains f = false ∧ Nat.ble ns.length 900 = true ∧ Put m2 p (.ins C (ns ++ [f]) (ds ++ [d])) m3 ∧ P.nx r m3) : Ws W E (sFld G.K to te f) r m P := fun s H De e z g =>
  h s H _ e z fun d m1 v H1 s1 mu1 r1 q1 => q1 s H1 _ (e.step s1 mu1) (z.step s1) fun o m2 vo H2 s2 mu2 r2 q2 => by
    obtain ⟨p, C, ns, ds, m3, rfl, ha, hc, hn, hf, hl, hp, k⟩ := q2
    cases r2
    have q := ha.rep mu2
    cases q with
    | ins hh rf =>
      have st : ∀ o, Stp (dom m2) H2 (dom m3) (upd H2 p o) := fun o => hp.stp
      have nf : f ∉ List.map (fun q : Str × V => q.1) _ := fun zz => by
        rw [rf.names] at zz
        rw [List.contains_iff_mem.mpr zz] at hf
        cases hf
      refine ⟨p, C, _, _, rfl, hh, hc, hn, by rw [rf.lens]; have := Nat.le_of_ble_eq_true hl; omega, ?_⟩
      rw [putF_new nf]
      exact g.nx r m3 s _ ((s1.trans s2).trans (st _)) (((e.step s1 mu1).step s2 mu2).step (st _) (hp.mut mu2 (.ins upd_same ((rf.snoc (r1.mono s2)).mono (st _))))) k
end

/-! ### loops -/
section
variable {W : WX} {E : ET} {r : Rho} {m : Mu} {P : DEnds} {G : Gx} {te : TE} {ta : TA} {tt : TT} {tb : TS} {i : Nat}
theorem goL {m0 : Mu} {H0 : Hp} {De : Ends} {nx : L2.St → Hp → Prop} {Nx : Rho → Mu → Prop} (g : GoS m0 H0 P De) {H : Hp} {m : Mu} (st : Stp (dom m0) H0 (dom m) H)
    (h : ∀ r' m' s' H', Stp (dom m) H (dom m') H' → EnvR r' m' s' H' → Nx r' m' → nx s' H') : GoS m H { nx := Nx, rt := P.rt, bk := P.nx, ct := Nx } { De with nx := nx, ct := nx, bk := De.nx } :=
  ⟨h, fun d m' v H' a b c q => g.rt d m' v H' (st.trans a) b c q, fun r' m' s' H' a b q => g.nx r' m' s' H' (st.trans a) b q, h⟩
theorem ws_range1 (h : Wa W E ta r m fun ds m1 => ∃ (j : Int) (I : Nat → Rho → Mu → Prop), ds = [.int j] ∧ (-(2 ^ 62) ≤ j ∧ j < 2 ^ 62) ∧ I 0 r m1 ∧
    (∀ k r' m', k < j.toNat → I k r' m' → Ws W E tb (r'.set i (some (.int (k : Int)))) m' { nx := I (k + 1), rt := P.rt, bk := P.nx, ct := I (k + 1) }) ∧ (∀ r' m', I j.toNat r' m' → P.nx r' m')) :
    Ws W E (tFor (iRng1 ta) (gName i) tb) r m P := fun s H De e z g =>
  h s H _ e z fun ds m1 vs H1 s1 mu1 r1 q => by
    obtain ⟨j, I, rfl, ⟨b1, b2⟩, h0, hs, hd⟩ := q
    cases r1 with
    | cons ra t =>
      cases t
      cases ra
      refine ⟨j, rfl, b1, b2, ?_⟩
      refine for_range (lo := 0) (n := j.toNat) (fun k s' H' => ∃ r' m', Stp (dom m) H (dom m') H' ∧ EnvR r' m' s' H' ∧ I k r' m') ⟨r, m1, s1, e.step s1 mu1, h0⟩ (fun k s' H' hk ⟨r', m', st, e', hi⟩ => ?_) (fun s' H' ⟨r', m', st, e', hi⟩ => g.nx r' m' s' H' st e' (hd r' m' hi))
      have q := hs k r' m' hk hi
      show tb _ (s'.set i (some (.int (0 + (k : Int))))) H'
      rw [Int.zero_add]
      exact q _ H' _ (e'.put (.int _)) (z.step st) (goL g st fun r2 m2 s2 H2 a b c => ⟨r2, m2, st.trans a, b, c⟩)
theorem ws_range2 (h : Wa W E ta r m fun ds m1 => ∃ (l j : Int) (I : Nat → Rho → Mu → Prop), ds = [.int l, .int j] ∧ (-(2 ^ 62) ≤ l ∧ l < 2 ^ 62 ∧ -(2 ^ 62) ≤ j ∧ j < 2 ^ 62) ∧ I 0 r m1 ∧
    (∀ k r' m', k < (j - l).toNat → I k r' m' → Ws W E tb (r'.set i (some (.int (l + (k : Int))))) m' { nx := I (k + 1), rt := P.rt, bk := P.nx, ct := I (k + 1) }) ∧ (∀ r' m', I (j - l).toNat r' m' → P.nx r' m')) :
    Ws W E (tFor (iRng2 ta) (gName i) tb) r m P := fun s H De e z g =>
  h s H _ e z fun ds m1 vs H1 s1 mu1 r1 q => by
    obtain ⟨l, j, I, rfl, b1, h0, hs, hd⟩ := q
    cases r1 with
    | cons ra t =>
      cases t with
      | cons rb t =>
        cases t
        cases ra
        cases rb
        refine ⟨l, j, rfl, b1, ?_⟩
        refine for_range (lo := l) (n := (j - l).toNat) (fun k s' H' => ∃ r' m', Stp (dom m) H (dom m') H' ∧ EnvR r' m' s' H' ∧ I k r' m') ⟨r, m1, s1, e.step s1 mu1, h0⟩ (fun k s' H' hk ⟨r', m', st, e', hi⟩ => ?_) (fun s' H' ⟨r', m', st, e', hi⟩ => g.nx r' m' s' H' st e' (hd r' m' hi))
        exact hs k r' m' hk hi _ H' _ (e'.put (.int _)) (z.step st) (goL g st fun r2 m2 s2 H2 a b c => ⟨r2, m2, st.trans a, b, c⟩)
/-- for over a list or a tuple -/
def iSeq (K : PySem.W.Frag) (tl : TE) : TI := fun σ H R => tl σ H fun x H1 => (∃ a, x = .ref a ∧ (∃ xs, SqL K H1 a xs) ∧ R (Itl K a) H1) ∨ (∃ a, x = .ref a ∧ (∃ xs, SqT K H1 a xs) ∧ R (Itt K a) H1)
theorem pi_seq {X : Cx} {tg l : Expr} {tl : TE} (hl : PE X l tl) : PI X tg l (iSeq X.K tl) := by
  refine ⟨fun pins s σ H R I h => ?_⟩
  refine thn (hl.run pins s σ H _ I h) fun v s1 ⟨x, H1, I1, r1, q1⟩ => ?_
  rcases q1 with ⟨a, e, ⟨xs, hq⟩, q⟩ | ⟨a, e, ⟨xs, hq⟩, q⟩
  · subst e
    cases r1
    obtain ⟨its, rv, p, hz⟩ := I1.list hq
    refine wpAny_pyIter_list p.isList ?_
    refine ⟨s1.heap.objs.size, [s1.heap.objs.size], _, _, H1, rfl, I1.kept (t' := s1.toks) fun b o e => Heap.get?_push_of_some _ e, turn_list a _, ⟨_, Heap.get?_push_size _ rfl, rfl, rfl⟩, fun b hb => ?_, q⟩
    have e : b = s1.heap.objs.size := by simpa using hb
    subst e
    exact I1.fpOk (Nat.le_refl _) (I1.hok.fresh (Nat.le_refl _))
  · subst e
    cases r1
    obtain ⟨its, rv, p, hz⟩ := I1.tuple hq
    refine wpAny_pyIter_tuple (show s1.heap.IsTuple a its.toArray from p) ?_
    refine ⟨s1.heap.objs.size, [s1.heap.objs.size], _, _, H1, rfl, I1.kept (t' := s1.toks) fun b o e => Heap.get?_push_of_some _ e, turn_tuple a _, ⟨_, Heap.get?_push_size _ rfl, rfl, rfl⟩, fun b hb => ?_, q⟩
    have e : b = s1.heap.objs.size := by simpa using hb
    subst e
    exact I1.fpOk (Nat.le_refl _) (I1.hok.fresh (Nat.le_refl _))
inductive SeqD : D → List D → Prop
  | lst {xs : List D} : SeqD (.lst xs) xs
  | tup {xs : List D} : SeqD (.tup xs) xs
/-- by an invariant -/
theorem ws_seqI {g : TG} (h : We W E te r m fun d m1 => ∃ (xs : List D) (I : Nat → Rho → Mu → Prop), SeqD d xs ∧ I 0 r m1 ∧
    (∀ k x r' m', xs[k]? = some x → I k r' m' → Wg W E g x r' m' fun r2 m2 => Ws W E tb r2 m2 { nx := I (k + 1), rt := P.rt, bk := P.nx, ct := I (k + 1) }) ∧ (∀ r' m', I xs.length r' m' → P.nx r' m')) :
    Ws W E (tFor (iSeq G.K te) g tb) r m P := fun s H De e z gg =>
  h s H _ e z fun d m1 v H1 s1 mu1 r1 q => by
    obtain ⟨xs, I, sd, h0, hs, hd⟩ := q
    cases sd with
    | lst =>
      cases r1 with
      | @lst a _ vs mm hh rs =>
        refine .inl ⟨a, rfl, ⟨_, rd_l hh⟩, ?_⟩
        refine for_list (xs := vs) (fun k s' H' => ∃ r' m', Stp (dom m1) H1 (dom m') H' ∧ EnvR r' m' s' H' ∧ I k r' m') ⟨r, m1, Stp.refl _ _, e.step s1 mu1, h0⟩ (fun k s' H' _ ⟨r', m', st1, e', hi⟩ => rd_l (st1.rd mm hh).1)
          (fun k x s' H' hx ⟨r', m', st1, e', hi⟩ => ?_) (fun s' H' ⟨r', m', st1, e', hi⟩ => gg.nx r' m' s' H' (s1.trans st1) e' (hd r' m' (by rw [rs.length]; exact hi)))
        obtain ⟨d, hd1, hd2⟩ := rs.getV hx
        refine hs k d r' m' hd1 hi s' H' x _ e' (z.step (s1.trans st1)) (hd2.mono st1) fun r2 m2 s2 H2 st2 e2 q2 => ?_
        exact q2 s2 H2 _ e2 (z.step (s1.trans (st1.trans st2))) (goL gg (s1.trans (st1.trans st2)) fun r3 m3 s3 H3 a3 b3 c3 => ⟨r3, m3, st1.trans (st2.trans a3), b3, c3⟩)
    | tup =>
      cases r1 with
      | @tup a _ vs mm hh rs =>
        refine .inr ⟨a, rfl, ⟨_, rd_t hh⟩, ?_⟩
        refine for_tup (xs := vs) (fun k s' H' => ∃ r' m', Stp (dom m1) H1 (dom m') H' ∧ EnvR r' m' s' H' ∧ I k r' m') ⟨r, m1, Stp.refl _ _, e.step s1 mu1, h0⟩ (fun k s' H' _ ⟨r', m', st1, e', hi⟩ => rd_t (st1.rd mm hh).1)
          (fun k x s' H' hx ⟨r', m', st1, e', hi⟩ => ?_) (fun s' H' ⟨r', m', st1, e', hi⟩ => gg.nx r' m' s' H' (s1.trans st1) e' (hd r' m' (by rw [rs.length]; exact hi)))
        obtain ⟨d, hd1, hd2⟩ := rs.getV hx
        refine hs k d r' m' hd1 hi s' H' x _ e' (z.step (s1.trans st1)) (hd2.mono st1) fun r2 m2 s2 H2 st2 e2 q2 => ?_
        exact q2 s2 H2 _ e2 (z.step (s1.trans (st1.trans st2))) (goL gg (s1.trans (st1.trans st2)) fun r3 m3 s3 H3 a3 b3 c3 => ⟨r3, m3, st1.trans (st2.trans a3), b3, c3⟩)
/-- turn by turn, the target a name -/
def ForL (W : WX) (E : ET) (i : Nat) (tb : TS) (P : DEnds) : List D → Rho → Mu → Prop
  | [], r, m => P.nx r m
  | x :: xs, r, m => Ws W E tb (r.set i (some x)) m { nx := ForL W E i tb P xs, rt := P.rt, bk := P.nx, ct := ForL W E i tb P xs }
theorem ws_seqU (h : We W E te r m fun d m1 => ∃ xs, SeqD d xs ∧ ForL W E i tb P xs r m1) : Ws W E (tFor (iSeq G.K te) (gName i) tb) r m P :=
  ws_seqI (h.imp fun d m1 ⟨xs, sd, q⟩ => ⟨xs, fun k r' m' => ForL W E i tb P (xs.drop k) r' m', sd, (show ForL W E i tb P (xs.drop 0) r m1 by rw [List.drop_zero]; exact q), fun k x r' m' hx hi => by
    obtain ⟨hk, hx'⟩ := List.getElem?_eq_some_iff.mp hx
    have hi2 : ForL W E i tb P (xs.drop k) r' m' := hi
    rw [List.drop_eq_getElem_cons hk, hx'] at hi2
    exact wg_name hi2, fun r' m' hi => by
    have hi2 : ForL W E i tb P (xs.drop xs.length) r' m' := hi
    rw [List.drop_length] at hi2
    exact hi2⟩)
theorem forL_nil {r : Rho} {m : Mu} (h : P.nx r m) : ForL W E i tb P [] r m := h
theorem forL_cons {x : D} {xs : List D} {r : Rho} {m : Mu} (h : Ws W E tb (r.set i (some x)) m { nx := ForL W E i tb P xs, rt := P.rt, bk := P.nx, ct := ForL W E i tb P xs }) : ForL W E i tb P (x :: xs) r m := h
/-- while, by a word and a measure -/
theorem ws_while (I : Rho → Mu → Prop) (f : Rho → Mu → Nat) (h0 : I r m) (h : ∀ r m, I r m → Wt W E tt r m fun b m1 => (b = true → Ws W E tb r m1 { nx := fun r' m' => I r' m' ∧ f r' m' < f r m, rt := P.rt, bk := P.nx, ct := fun r' m' => I r' m' ∧ f r' m' < f r m }) ∧ (b = false → P.nx r m1)) :
    Ws W E (tWhile tt tb) r m P := fun s H De e z g => by
  refine ⟨fun n s' H' => ∃ r' m', n = f r' m' ∧ Stp (dom m) H (dom m') H' ∧ EnvR r' m' s' H' ∧ I r' m', ⟨_, r, m, rfl, Stp.refl _ _, e, h0⟩, ?_⟩
  rintro n s' H' ⟨r', m', rfl, st, e', hi⟩
  refine h r' m' hi s' H' _ e' (z.step st) fun b m1 H1 s1 mu1 q => ?_
  cases b with
  | true =>
    rw [if_pos rfl]
    refine ⟨fun s2 H2 => ∃ r2 m2, f r2 m2 < f r' m' ∧ Stp (dom m) H (dom m2) H2 ∧ EnvR r2 m2 s2 H2 ∧ I r2 m2, fun s2 H2 ⟨r2, m2, l, a, b, c⟩ => ⟨_, l, r2, m2, rfl, a, b, c⟩, ?_⟩
    exact q.1 rfl s' H1 _ (e'.step s1 mu1) (z.step (st.trans s1)) (goL g (st.trans s1) fun r2 m2 s2 H2 a b c => ⟨r2, m2, c.2, st.trans (s1.trans a), b, c.1⟩)
  | false =>
    rw [if_neg Bool.false_ne_true]
    exact g.nx r' m1 s' H1 (st.trans s1) (e'.step s1 mu1) (q.2 rfl)
end
end DL
set_option Elab.async false
set_option linter.all false
set_option maxRecDepth 100000
/-! DL6: built-in functions, comprehensions, lists changed, errors raised and caught. -/
namespace DL
open PySem PySem.Spec L2
open PyProof.Rows hiding St

/-! ### built-in functions: the readings -/
section
variable {X : Cx} {W : WX} {j : Nat}
def rAbsI : List V → Hp → VK → Prop := fun xs H Q => ∃ i, xs = [.int i] ∧ Q (.int (if i < 0 then -i else i)) H
def cAbs : OC := fun xs _ H Q => rAbsI xs H Q
theorem cs_abs : CallS X (.builtin "abs") cAbs := CallS.of call_abs
def rInt1 : List V → Hp → VK → Prop := fun xs H Q => (∃ i, xs = [.int i] ∧ Q (.int i) H) ∨ ∃ k, xs = [.bl k] ∧ Q (.int (if k then 1 else 0)) H
def cInt : OC := fun xs _ H Q => rInt1 xs H Q
theorem cs_int : CallS X (.type "int") cInt := CallS.of call_int1
def rLenD (K : PySem.W.Frag) : List V → Hp → VK → Prop := fun xs H Q => ∃ x n, xs = [x] ∧ LenV K x H n ∧ Q (.int (n : Nat)) H
def cLen (G : Gx) : OC := fun xs _ H Q => rLenD G.K xs H Q
theorem cs_len : CallS X (.builtin "len") (cLen (Gx.of X)) := CallS.of call_len
def rMin2 : List V → Hp → VK → Prop := fun xs H Q => ∃ i j, xs = [.int i, .int j] ∧ Q (.int (if j < i then j else i)) H
def rMax2 : List V → Hp → VK → Prop := fun xs H Q => ∃ i j, xs = [.int i, .int j] ∧ Q (.int (if j > i then j else i)) H
def cMin : OC := fun xs _ H Q => rMin2 xs H Q
def cMax : OC := fun xs _ H Q => rMax2 xs H Q
theorem cs_min (hc : X.calm = true) : CallS X (.builtin "min") cMin := CallS.of (call_min2 hc)
theorem cs_max (hc : X.calm = true) : CallS X (.builtin "max") cMax := CallS.of (call_max2 hc)
def cGcd : OC := fun xs _ H Q => rGcd xs H Q
theorem cs_gcd : CallS X (.builtin "math.gcd") cGcd := CallS.of cr_gcd
def cIsi (G : Gx) : OC := fun xs _ H Q => rIsi G.K xs H Q
theorem cs_isi : CallS X (.builtin "isinstance") (cIsi (Gx.of X)) := CallS.of call_isi
end

/-! ### what they do -/
section
variable {W : WX} {E : ET} {r : Rho} {m : Mu} {K : KT} {G : Gx} {j : Nat}
theorem wc_abs {i : Int} (h : K (.int (i.natAbs : Int)) m) : Wc W E cAbs [.int i] r m K := fun s H Q vs e z rs g => by
  cases rs with
  | cons a t =>
    cases t; cases a
    refine ⟨i, rfl, ?_⟩
    have q : (if i < 0 then -i else i) = (i.natAbs : Int) := by split <;> omega
    rw [q]
    exact g _ m _ H (Stp.refl _ _) e.mu (.int _) h
theorem wc_int {i : Int} (h : K (.int i) m) : Wc W E cInt [.int i] r m K := fun s H Q vs e z rs g => by
  cases rs with
  | cons a t =>
    cases t; cases a
    exact .inl ⟨i, rfl, g _ m _ H (Stp.refl _ _) e.mu (.int _) h⟩
theorem wc_intB {b : Bool} (h : K (.int (if b then 1 else 0)) m) : Wc W E cInt [.bl b] r m K := fun s H Q vs e z rs g => by
  cases rs with
  | cons a t =>
    cases t; cases a
    exact .inr ⟨b, rfl, g _ m _ H (Stp.refl _ _) e.mu (.int _) h⟩
inductive LenD : D → Mu → Nat → Prop
  | tup {m : Mu} {xs : List D} : LenD (.tup xs) m xs.length
  | lst {m : Mu} {xs : List D} : LenD (.lst xs) m xs.length
  | mutb {m : Mu} {p : Addr} {xs : List D} (h : At m p (.lst xs)) : LenD (.ref p) m xs.length
theorem wc_len {d : D} {n : Nat} (l : LenD d m n) (h : K (.int (n : Int)) m) : Wc W E (cLen G) [d] r m K := fun s H Q vs e z rs g => by
  cases rs with
  | cons a t =>
    cases t
    refine ⟨_, n, rfl, ?_, g _ m _ H (Stp.refl _ _) e.mu (.int _) h⟩
    cases l with
    | tup => cases a with | tup mm hh rs => exact .inr ⟨_, rd_t hh, rs.length⟩
    | lst => cases a with | lst mm hh rs => exact .inl ⟨_, rd_l hh, rs.length⟩
    | mutb hm =>
      cases a
      have q := hm.rep e.mu
      cases q with
      | lst hh rs => exact .inl ⟨_, SqL.of hh, rs.length⟩
theorem wc_min {i k : Int} (h : K (.int (min i k)) m) : Wc W E cMin [.int i, .int k] r m K := fun s H Q vs e z rs g => by
  cases rs with
  | cons a t =>
    cases t with
    | cons b t =>
      cases t; cases a; cases b
      refine ⟨i, k, rfl, ?_⟩
      have q : (if k < i then k else i) = min i k := by split <;> omega
      rw [q]
      exact g _ m _ H (Stp.refl _ _) e.mu (.int _) h
theorem wc_max {i k : Int} (h : K (.int (max i k)) m) : Wc W E cMax [.int i, .int k] r m K := fun s H Q vs e z rs g => by
  cases rs with
  | cons a t =>
    cases t with
    | cons b t =>
      cases t; cases a; cases b
      refine ⟨i, k, rfl, ?_⟩
      have q : (if k > i then k else i) = max i k := by split <;> omega
      rw [q]
      exact g _ m _ H (Stp.refl _ _) e.mu (.int _) h
theorem wc_gcd {i k : Int} (h : K (.int ((Nat.gcd i.natAbs k.natAbs : Nat) : Int)) m) : Wc W E cGcd [.int i, .int k] r m K := fun s H Q vs e z rs g => by
  cases rs with
  | cons a t =>
    cases t with
    | cons b t =>
      cases t; cases a; cases b
      exact ⟨i, k, rfl, g _ m _ H (Stp.refl _ _) e.mu (.int _) h⟩
/-- the class of a tree, as isinstance asks -/
structure InsK (K : PySem.W.Frag) (C : Addr) : Prop where
  cl : Cls K C
  ha : PySem.W.findIn K (.ref C) "__class__" = some (some (.builtin "object.__class__"))
  hn : PySem.W.specialIn K (.builtin "object.__class__") "__get__" = some (some (.builtin "getset_descriptor.__get__"))
  ht : PySem.W.takesIn K (.builtin "object.__class__") = some true
  hm : PySem.W.mroIn K C (.type "object") = some true
inductive TyD (G : Gx) : D → Mu → Value → Prop
  | non {m : Mu} : TyD G .non m (.type "NoneType")
  | bl {m : Mu} {b : Bool} : TyD G (.bl b) m (.type "bool")
  | int {m : Mu} {i : Int} : TyD G (.int i) m (.type "int")
  | str {m : Mu} {x : Str} : TyD G (.str x) m (.type "str")
  | tup {m : Mu} {xs : List D} : TyD G (.tup xs) m (.type "tuple")
  | lst {m : Mu} {xs : List D} : TyD G (.lst xs) m (.type "list")
  | ins {m : Mu} {C : Addr} {ns : List Str} {ds : List D} (h : InsK G.K C) : TyD G (.ins C ns ds) m (.ref C)
theorem TyD.ok {d : D} {t : Value} {H : Hp} {v : V} (h : TyD G d m t) (rp : Rep (dom m) H d v) : TyX G.K H v t := by
  cases h with
  | non => cases rp; exact .base .non
  | bl => cases rp; exact .base (.bl _)
  | int => cases rp; exact .base (.int _)
  | str => cases rp; exact .base (.str _)
  | tup =>
    cases rp with
    | tup mm hh rs =>
      rcases hh with hh | ⟨o, hh⟩
      · exact .base (.tup hh)
      · exact .fTuple hh
  | lst =>
    cases rp with
    | lst mm hh rs =>
      rcases hh with hh | ⟨o, hh⟩
      · exact .base (.lst hh)
      · exact .base (.frz hh)
  | ins h =>
    cases rp with
    | ins mm hh rs => exact .base (.ins hh h.cl h.ha h.hn h.ht h.hm)
theorem wc_isiT {d : D} {t : Value} {n : String} {b : Bool} (ty : TyD G d m t) (hk : PySem.W.kitOne G.K t (.type n) = some b) (h : K (.bl b) m) : Wc W E (cIsi G) [d, .ty n] r m K := fun s H Q vs e z rs g => by
  cases rs with
  | cons a tt =>
    cases tt with
    | cons c tt =>
      cases tt; cases c
      exact ⟨_, _, t, .type n, b, rfl, .ty n, ty.ok a, hk, g _ m _ H (Stp.refl _ _) e.mu (.bl _) h⟩
theorem wc_isiC {d : D} {t : Value} {C : Addr} {b : Bool} (ty : TyD G d m t) (hk : PySem.W.kitOne G.K t (.ref C) = some b) (h : K (.bl b) m) : Wc W E (cIsi G) [d, .ref C] r m K := fun s H Q vs e z rs g => by
  cases rs with
  | cons a tt =>
    cases tt with
    | cons c tt =>
      cases tt; cases c
      exact ⟨_, _, t, .ref C, b, rfl, .own C, ty.ok a, hk, g _ m _ H (Stp.refl _ _) e.mu (.bl _) h⟩
end

/-! ### comprehensions over a list or a tuple, the element by a function -/
section
variable {W : WX} {E : ET} {r : Rho} {m : Mu} {K : KT} {G : Gx} {te tx : TE} {i : Nat}
theorem wipe1 (s : L2.St) : wipe s [i] = s.set i none := rfl
theorem we_lcmG {f : D → D} {W0 : WX} {E0 : ET} (hz : ∀ {m : Mu} {H : Hp}, Rz W E m H → Rz W0 E0 m H) (h : We W E tx r m fun d m1 => ∃ xs, SeqD d xs ∧ Nat.ble xs.length 100000 = true ∧ (∀ x ∈ xs, ∀ (q : Addr × MO) (K2 : KT), K2 (f x) (q :: m1) → We W0 E0 te (r.set i (some x)) (q :: m1) K2) ∧ K (.lst (xs.map f)) m1) :
    We W E (tLc (iSeq G.K tx) (gName i) tYes te [i]) r m K := fun s H Q e z g =>
  h s H _ e z fun d m1 v H1 s1 mu1 r1 q => by
    obtain ⟨xs, sd, hlen, hel, hK⟩ := q
    have e1 := e.step s1 mu1
    have hlen' := Nat.le_of_ble_eq_true hlen
    have start : ∀ Dd, H1 Dd = none → (Stp (dom m1) H1 (dom ((Dd, MO.lst ((xs.take 0).map f)) :: m1)) (upd H1 Dd (.lst [])) ∧ MutR ((Dd, .lst ((xs.take 0).map f)) :: m1) (upd H1 Dd (.lst []))) := fun Dd hd =>
      ⟨Stp.newM hd, mu1.newM hd (.lst upd_same .nil)⟩
    have fin : ∀ (vs : List V) (Dd : Addr), Reps (dom m1) H1 xs vs → ∀ H', (Stp (dom m1) H1 (dom ((Dd, MO.lst ((xs.take vs.length).map f)) :: m1)) H' ∧ MutR ((Dd, .lst ((xs.take vs.length).map f)) :: m1) H') → Q (.ref Dd) H' := fun vs Dd rs H' ⟨a, b⟩ => by
      rw [← rs.length, List.take_length] at a b
      have ls : Stp (dom ((Dd, MO.lst (xs.map f)) :: m1)) H' (dom m1) H' := Stp.less fun a z => dom_cons.mpr (.inr z)
      have q := (At.head (m := m1) (p := Dd) (o := .lst (xs.map f))).rep b
      cases q with
      | lst hh rr => exact g _ m1 _ H' (s1.trans (a.trans ls)) b.drop (.lst b.notin (.inl hh) (rr.mono ls)) hK
    have turn : ∀ (vs : List V) (Dd : Addr), Reps (dom m1) H1 xs vs → ∀ k x H', vs[k]? = some x → (Stp (dom m1) H1 (dom ((Dd, MO.lst ((xs.take k).map f)) :: m1)) H' ∧ MutR ((Dd, .lst ((xs.take k).map f)) :: m1) H') →
        te ((wipe s [i]).set i (some x)) H' fun y H4 => ∃ acc, H4 Dd = some (.lst acc) ∧ acc.length < sizeLine ∧ (Stp (dom m1) H1 (dom ((Dd, MO.lst ((xs.take (k + 1)).map f)) :: m1)) (upd H4 Dd (.lst (acc ++ [y]))) ∧ MutR ((Dd, .lst ((xs.take (k + 1)).map f)) :: m1) (upd H4 Dd (.lst (acc ++ [y])))) := fun vs Dd rs k x H' hx ⟨a, b⟩ => by
      obtain ⟨d, hd1, hd2⟩ := rs.getV hx
      have hmem : d ∈ xs := List.mem_of_getElem? hd1
      have ee : EnvR (r.set i (some d)) ((Dd, .lst ((xs.take k).map f)) :: m1) ((wipe s [i]).set i (some x)) H' := by
        have e' := e1.step a b
        refine ⟨?_, b⟩
        rw [wipe1, List.set_set]
        exact (e'.put (hd2.mono a)).env
      refine hel d hmem (Dd, .lst ((xs.take k).map f)) (fun d' m' => d' = f d ∧ m' = (Dd, .lst ((xs.take k).map f)) :: m1) ⟨rfl, rfl⟩ _ H' _ ee (hz (z.step (s1.trans a))) fun d' m' y H4 st4 mu4 r4 qq => ?_
      obtain ⟨rfl, rfl⟩ := qq
      have q := (At.head (m := m1) (p := Dd) (o := .lst ((xs.take k).map f))).rep mu4
      have ex : xs.take (k + 1) = xs.take k ++ [d] := by
        rw [List.take_add_one, hd1]
        rfl
      cases q with
      | @lst _ ys hh rr =>
        have al : ys.length < sizeLine := by
          rw [← rr.length, List.length_map, List.length_take]
          have : (100000 : Nat) < sizeLine := by decide
          omega
        have P : Put ((Dd, MO.lst ((xs.take k).map f)) :: m1) Dd (.lst ((xs.take (k + 1)).map f)) ((Dd, .lst ((xs.take (k + 1)).map f)) :: m1) := .head
        refine ⟨ys, hh, al, a.trans (st4.trans P.stp), P.mut mu4 (.lst upd_same ?_)⟩
        rw [ex, List.map_append]
        exact Reps.append (rr.mono P.stp) (.cons (r4.mono P.stp) .nil)
    cases sd with
    | lst =>
      cases r1 with
      | @lst a _ vs mm hh rs =>
        refine .inl ⟨a, rfl, ⟨vs, rd_l hh⟩, fun (Dd : Addr) (hD : H1 Dd = none) => ?_⟩
        refine lc_list (xs := vs) (fun k H' => Stp (dom m1) H1 (dom ((Dd, MO.lst ((xs.take k).map f)) :: m1)) H' ∧ MutR ((Dd, .lst ((xs.take k).map f)) :: m1) H') (start Dd hD) (fun k H' _ p => rd_l (p.1.rd mm hh).1)
          (fun k x H' hx p => ⟨by simp only [wipe, List.set_set], ?_⟩) (fun H' p => fin vs Dd rs H' p)
        unfold tYes
        dsimp only
        rw [if_pos rfl]
        exact turn vs Dd rs k x H' hx p
    | tup =>
      cases r1 with
      | @tup a _ vs mm hh rs =>
        refine .inr ⟨a, rfl, ⟨vs, rd_t hh⟩, fun (Dd : Addr) (hD : H1 Dd = none) => ?_⟩
        refine lc_tup (xs := vs) (fun k H' => Stp (dom m1) H1 (dom ((Dd, MO.lst ((xs.take k).map f)) :: m1)) H' ∧ MutR ((Dd, .lst ((xs.take k).map f)) :: m1) H') (start Dd hD) (fun k H' _ p => rd_t (p.1.rd mm hh).1)
          (fun k x H' hx p => ⟨by simp only [wipe, List.set_set], ?_⟩) (fun H' p => fin vs Dd rs H' p)
        unfold tYes
        dsimp only
        rw [if_pos rfl]
        exact turn vs Dd rs k x H' hx p
theorem we_lcm {f : D → D} (h : We W E tx r m fun d m1 => ∃ xs, SeqD d xs ∧ Nat.ble xs.length 100000 = true ∧ (∀ x ∈ xs, ∀ (q : Addr × MO) (K2 : KT), K2 (f x) (q :: m1) → We W E te (r.set i (some x)) (q :: m1) K2) ∧ K (.lst (xs.map f)) m1) :
    We W E (tLc (iSeq G.K tx) (gName i) tYes te [i]) r m K := we_lcmG (fun z => z) h
/-- no call of an element lets an exception out -/
theorem we_lcmN {f : D → D} (h : We W E tx r m fun d m1 => ∃ xs, SeqD d xs ∧ Nat.ble xs.length 100000 = true ∧ (∀ x ∈ xs, ∀ (q : Addr × MO) (K2 : KT), K2 (f x) (q :: m1) → We (fun _ _ _ _ => False) (fun _ _ _ => False) te (r.set i (some x)) (q :: m1) K2) ∧ K (.lst (xs.map f)) m1) :
    We W E (tLc (iSeq G.K tx) (gName i) tYes te [i]) r m K := we_lcmG (fun _ _ _ _ _ _ _ _ _ _ _ (e : False) => e.elim) h
end
end DL
set_option Elab.async false
set_option linter.all false
set_option maxRecDepth 100000
/-! DL7: lists changed, slices, errors raised and caught. -/
namespace DL
open PySem PySem.Spec L2
open PyProof.Rows hiding St

section
variable {W : WX} {E : ET} {r : Rho} {m : Mu} {K : KT} {G : Gx} {te to : TE} {ta : TA} {i : Nat} {P : DEnds}
/-! ### xs.append(d) -/
theorem we_app (h : We W E to r m fun o m1 => ∃ p xs1, o = .ref p ∧ At m1 p (.lst xs1) ∧ Wa W E ta r m1 fun ds m2 => ∃ xs d m3, ds = [d] ∧ At m2 p (.lst xs) ∧ xs.length < 1000000 ∧ Put m2 p (.lst (xs ++ [d])) m3 ∧ K .non m3) :
    We W E (tBM G.K "list" rAppend to ta) r m K := fun s H Q e z g =>
  h s H _ e z fun o m1 v H1 s1 mu1 r1 q => by
    obtain ⟨p, xs1, rfl, ha1, q⟩ := q
    cases r1
    have at1 := ha1.rep mu1
    cases at1 with
    | lst hh1 rs1 =>
      refine ⟨Or.inl ⟨rfl, _, SqL.of hh1⟩, ?_⟩
      refine q s H1 _ (e.step s1 mu1) (z.step s1) fun ds m2 vs H2 s2 mu2 r2 q2 => ?_
      obtain ⟨xs, d, m3, rfl, ha, hl, hp, k⟩ := q2
      have at2 := ha.rep mu2
      cases at2 with
      | lst hh rs =>
        cases r2 with
        | cons rd t =>
          cases t
          have st : ∀ o, Stp (dom m2) H2 (dom m3) (upd H2 p o) := fun o => hp.stp
          refine ⟨p, _, _, rfl, rfl, hh, Nat.lt_of_lt_of_le (by rw [← rs.length]; exact hl) (by decide : 1000000 ≤ sizeLine), ?_⟩
          exact g _ m3 _ _ ((s1.trans s2).trans (st _)) (hp.mut mu2 (.lst upd_same (Reps.append (rs.mono (st _)) (.cons (rd.mono (st _)) .nil)))) .non k

/-! ### slices -/
def cutD (xs : List D) (lo hi : Option Int) : List D := (xs.drop (HT.sIx xs.length 0 lo)).take (HT.sIx xs.length xs.length hi - HT.sIx xs.length 0 lo)
theorem Reps.cut {M : Addr → Prop} {H : Hp} {ds : List D} {vs : List V} (h : Reps M H ds vs) (lo hi : Option Int) : Reps M H (cutD ds lo hi) (cutV vs lo hi) := by
  unfold cutD cutV
  rw [h.length]
  exact (h.drop _).take _
def Wo (W : WX) (E : ET) (t : TO) (r : Rho) (m : Mu) (KO : Option Int → Mu → Prop) : Prop := ∀ s H Q, EnvR r m s H → Rz W E m H → (∀ o m' H', Stp (dom m) H (dom m') H' → MutR m' H' → KO o m' → Q o H') → t s H Q
theorem wo_none {KO : Option Int → Mu → Prop} (h : KO none m) : Wo W E tNoPart r m KO := fun s H Q e z g => g none m H (Stp.refl _ _) e.mu h
theorem wo_some {KO : Option Int → Mu → Prop} (h : We W E te r m fun d m1 => ∃ i, d = .int i ∧ KO (some i) m1) : Wo W E (tPart te) r m KO := fun s H Q e z g =>
  h s H _ e z fun d m1 v H1 s1 mu1 r1 ⟨i, hd, k⟩ => by
    subst hd
    cases r1
    exact ⟨i, rfl, g _ m1 H1 s1 mu1 k⟩
theorem we_slL {tl th : TO} (h : We W E te r m fun d m1 => ∃ xs, d = .lst xs ∧ Wo W E tl r m1 fun lo m2 => Wo W E th r m2 fun hi m3 => K (.lst (cutD xs lo hi)) m3) : We W E (tSl (rSlL G.K) te tl th) r m K := fun s H Q e z g =>
  h s H _ e z fun d m1 v H1 s1 mu1 r1 ⟨xs, hd, q⟩ => by
    subst hd
    refine q s H1 _ (e.step s1 mu1) (z.step s1) fun lo m2 H2 s2 mu2 q2 => ?_
    refine q2 s H2 _ ((e.step s1 mu1).step s2 mu2) ((z.step s1).step s2) fun hi m3 H3 s3 mu3 k => ?_
    have r3 := (r1.mono s2).mono s3
    cases r3 with
    | lst mm hh rs =>
      refine ⟨_, _, rfl, rd_l hh, fun p hp => ?_⟩
      exact g _ m3 _ _ (((s1.trans s2).trans s3).trans (Stp.new hp)) (mu3.new hp) (.lst (fun zz => by obtain ⟨u, hu⟩ := mu3.there zz; rw [hp] at hu; cases hu) (.inl upd_same) ((rs.cut lo hi).mono (Stp.new hp))) k
/-- xs[::-1] -/
theorem Reps.rev {M : Addr → Prop} {H : Hp} : ∀ {d : List D} {v : List V}, Reps M H d v → Reps M H d.reverse v.reverse
  | _, _, .nil => .nil
  | _, _, .cons r t => by
    rw [List.reverse_cons, List.reverse_cons]
    exact Reps.append (Reps.rev t) (.cons r .nil)
theorem we_revL (h : We W E te r m fun d m1 => ∃ xs, d = .lst xs ∧ K (.lst xs.reverse) m1) : We W E (tRevL G.K te) r m K := fun s H Q e z g => by
  refine h s H _ e z fun d m1 v H1 s1 mu1 r1 ⟨xs, hd, k⟩ => ?_
  subst hd
  cases r1 with
  | lst mm hh rs =>
    refine ⟨_, _, rfl, rd_l hh, fun p hp => ?_⟩
    exact g _ m1 _ _ (s1.trans (Stp.new hp)) (mu1.new hp) (.lst (fun zz => by obtain ⟨u, hu⟩ := mu1.there zz; rw [hp] at hu; cases hu) (.inl upd_same) (rs.rev.mono (Stp.new hp))) k
/-- .. of a list that is changed -/
theorem we_revM (h : We W E te r m fun d m1 => ∃ p xs, d = .ref p ∧ At m1 p (.lst xs) ∧ K (.lst xs.reverse) m1) : We W E (tRevL G.K te) r m K := fun s H Q e z g => by
  refine h s H _ e z fun d m1 v H1 s1 mu1 r1 ⟨q, xs, hd, ha, k⟩ => ?_
  subst hd
  cases r1
  have at1 := ha.rep mu1
  cases at1 with
  | lst hh rs =>
    refine ⟨_, _, rfl, SqL.of hh, fun p hp => ?_⟩
    exact g _ m1 _ _ (s1.trans (Stp.new hp)) (mu1.new hp) (.lst (fun zz => by obtain ⟨u, hu⟩ := mu1.there zz; rw [hp] at hu; cases hu) (.inl upd_same) (rs.rev.mono (Stp.new hp))) k
end

/-! ### errors made by an own class: C(e, ..) with an __init__ that keeps its arguments in fields -/
def spXI (C : Addr) (ns : List Str) : Sp := fun vs H Q _ => ∃ (a : Addr) (ys : List V), vs = .ref a :: ys ∧ ys.length = ns.length ∧ H a = some (exo a C none) ∧
  ∀ d H', H d = none → d ≠ a → (∀ b, b ≠ a → b ≠ d → H' b = H b) → H' a = some (exo a C (some d)) → H' d = some (exd d (ns.zip ys).reverse) → Q .non H'
structure Exc (G : Gx) (x : Str) (C : Addr) (ns : List Str) : Prop where
  ex : ∃ (f : Addr) (fd : FuncData) (ps : List Str), FnOk G.P G.w G.K G.mg G.base CX0 1 f fd ps (spXI C ns) ∧ Binds G.K fd ps [] ∧ PySem.W.findIn G.K (.ref C) "__init__" = some (some (.ref f)) ∧ PySem.W.typeIn G.K (.ref f) = some (.type "function")
  ox : OexC G.K C
  mgC : G.mg x = some (.ref C)
section
variable {X : Cx} {W : WX} {E : ET} {x : Str} {C : Addr} {ns : List Str} {e : Expr} {es : List Expr} {ta : TA} {p pos pos' : Pos} {j : Nat}
theorem pmkN_oex (c : Exc (Gx.of X) x C ns) (hr : Room j X.A) (hj : 2 ≤ j) (hg : Gl X x) (ha : PA X (e :: es) ta)
    (hdb : (x == ("__debug__" : Str)) = false := by decide) (he : starEach (e :: es) X.env = (false, eval e X.env) :: starEach es X.env := by rfl) (hpl : (backTo pos (starEach es X.env)).any (·.1) = false := by rfl) :
    L2N.PMk X (.Call (.Name x p) (e :: es) [] pos) (tMkO C (spXI C ns) [] ta) := by
  intro pins s σ H Q I h
  obtain ⟨fI, fd, ps, F1, hb, iC, tI⟩ := c.ex
  have T := c.ox
  obtain ⟨nm, q, N, bs, bm, sn, sub, ab, col, dd, k0, k1, k2, k3, k5, hC, hbm⟩ := T.cls
  refine wpAny_Call_Name_kw (ld_glob I hg c.mgC ?_ hdb)
  refine PySem.W.callWith_K (h₀ := X.base) I.ok.mod.kin T.kC (thn (ha.run pos pins s σ H _ I h) fun us s1 ⟨vs, H1, I1, r1, hz, q1⟩ => ⟨I1.kIn, ?_⟩) he hpl
  show wpAny _ _ (call (.ref C) us) _ _ _
  obtain ⟨hp, g, dr, tk, os⟩ := s1
  have hsz : hp.objs.size ≤ hp.objs.size + 1 := Nat.le_succ _
  have hn : H1 (hp.objs.size + 1) = none := I1.hok.fresh hsz
  have hq := q1 (hp.objs.size + 1) hn
  rw [List.append_nil] at hq
  have kk : ∀ b o, hp.get? b = some o → ((hp.push (PySem.W.kdv_tup us)).push (PySem.HandSPX.excO C hp.objs.size)).get? b = some o := fun b o e => Heap.get?_push_of_some _ (Heap.get?_push_of_some _ e)
  have hget : ((hp.push (PySem.W.kdv_tup us)).push (PySem.HandSPX.excO C hp.objs.size)).get? (hp.objs.size + 1) = some (PySem.HandSPX.excO C hp.objs.size) := by heap_get
  have I2 : Inv X pins σ (upd H1 (hp.objs.size + 1) (exo (hp.objs.size + 1) C none)) ⟨(hp.push (PySem.W.kdv_tup us)).push (PySem.HandSPX.excO C hp.objs.size), g, dr, tk, os⟩ :=
    I1.laid (t' := tk) (a := hp.objs.size + 1) (o := exo (hp.objs.size + 1) C none) (h' := (hp.push (PySem.W.kdv_tup us)).push (PySem.HandSPX.excO C hp.objs.size)) kk hsz (exo_ok hget)
  have r2 : Vals (V.ref (hp.objs.size + 1) :: vs) (Value.ref (hp.objs.size + 1) :: us) := .cons rfl r1
  have hl : (Value.ref (hp.objs.size + 1) :: us ++ []).length = ps.length := by
    have e := r2.length
    rw [F1.len _ _ _ _ hq] at e
    rw [List.append_nil]
    exact e.symm
  have hus : us.length ≤ sizeLine := by
    rw [← Paired.length r1, sizeLine_eq]
    omega
  have b2 := hb _ (Value.ref (hp.objs.size + 1) :: us) I2.kIn hl
  rw [List.append_nil] at b2
  refine wpAny_call (PySem.HandSPX.call_own F.excBase_ValueError (fun Y => PySem.HandSPX.refsVE_contains Y bm hbm) (I1.kIn _ _ hC) (PySem.W.looks_findIn I1.kIn iC) (fun self => PySem.W.bind_fn I1.kIn self tI) hus
    (codeAny_mono (F1.run _ X.stack _ _ ⟨Value.ref (hp.objs.size + 1) :: us, []⟩ (Value.ref (hp.objs.size + 1) :: us) _ _ (fun _ _ _ => False) ((hr.mono hj).make C us []) (I2.env0.make C us []) b2 r2 hq) fun r s' hq' => ?_))
  cases r with
  | error er => exact False.elim hq'
  | ok fl =>
    cases fl with
    | ret u =>
      obtain ⟨v, H2, os2, bare2, un2, hok2, rv, ev, d, fs, ea, ed, hd1, q2⟩ := hq'
      subst ev
      obtain ⟨h2, g2, d2, t2, os'⟩ := s'
      obtain ⟨t0, G, J, kG, ge, hoe, na⟩ := mk_end0 (d2 := d2) (t2 := t2) I1 hsz kk un2 hok2 os2 bare2 ea ed hd1
      exact ⟨rv, ⟨_, _, _, ⟨G, g2, d2, t2, os'⟩, _, .ref C, some d, rfl, J, kG, ge, hoe, ⟨rfl, rfl, fun vs e => by cases e; rfl⟩, rfl, rfl, na, rfl, bare2, raises_own T.exC T.tyC, q2⟩⟩
    | next => exact False.elim hq'
    | brk => exact False.elim hq'
    | cont => exact False.elim hq'
def tRs (C : Addr) (ns : List Str) (W : WX) (ta : TA) : TS := fun _ σ H => tMkO C (spXI C ns) [] ta σ H fun cls d H' => W cls d σ H'
theorem ps_rs (c : Exc (Gx.of X) x C ns) (hc : X.calm = true) (hr : Room j X.A) (hj : 2 ≤ j) (tk : L2N.Takes X W) (hg : Gl X x) (ha : PA X (e :: es) ta)
    (hdb : (x == ("__debug__" : Str)) = false := by decide) (he : starEach (e :: es) X.env = (false, eval e X.env) :: starEach es X.env := by rfl) (hpl : (backTo pos (starEach es X.env)).any (·.1) = false := by rfl) :
    PS X (.Raise (some (.Call (.Name x p) (e :: es) [] pos)) none pos') (tRs C ns W ta) := L2N.ps_raise hc tk (pmkN_oex c hr hj hg ha hdb he hpl)
theorem repF_zip {M : Addr → Prop} {H : Hp} : ∀ {ns : List Str} {ds : List D} {vs : List V}, ds.length = ns.length → Reps M H ds vs → RepF M H ns ds (ns.zip vs)
  | [], [], _, _, .nil => .nil
  | n :: ns, d :: ds, v :: vs, h, .cons r t => .cons r (repF_zip (by simpa using h) t)
theorem RepF.append {M : Addr → Prop} {H : Hp} : ∀ {n n' : List Str} {d d' : List D} {v v' : List (Str × V)}, RepF M H n d v → RepF M H n' d' v' → RepF M H (n ++ n') (d ++ d') (v ++ v')
  | _, _, _, _, _, _, .nil, h => h
  | _, _, _, _, _, _, .cons r t, h => .cons r (RepF.append t h)
theorem RepF.rev {M : Addr → Prop} {H : Hp} : ∀ {n : List Str} {d : List D} {v : List (Str × V)}, RepF M H n d v → RepF M H n.reverse d.reverse v.reverse
  | _, _, _, .nil => .nil
  | _, _, _, .cons r t => by
    rw [List.reverse_cons, List.reverse_cons, List.reverse_cons]
    exact RepF.append (RepF.rev t) (.cons r .nil)
theorem ws_rs {r : Rho} {m : Mu} {P : DEnds} (h : Wa W E ta r m fun ds m1 => ds.length = ns.length ∧ Nat.ble ds.length 1000 = true ∧ E ⟨C, ns.reverse, ds.reverse⟩ r m1) : Ws W E (tRs C ns W ta) r m P := fun s H De e z g =>
  h s H _ e z fun ds m1 vs H1 s1 mu1 r1 ⟨hl, h1000, q⟩ => by
    refine ⟨by rw [← r1.length]; exact Nat.le_of_ble_eq_true h1000, fun a ha => ?_⟩
    refine ⟨a, vs, by rw [List.append_nil], by rw [← r1.length, hl], upd_same, fun d H' hd hne hs h1 h2 => ⟨rfl, d, _, h1, h2, ?_, ?_⟩⟩
    · rw [upd_ne hne] at hd
      exact hd
    · rw [upd_ne hne] at hd
      have hd' : H1 d = none := hd
      have st : Stp (dom m1) H1 (dom m1) (upd (del H' a) d (.xd (ns.zip vs).reverse)) := fun b o hb hm => by
        have nbd : b ≠ d := fun e => by rw [e, hd'] at hb; cases hb
        have nba : b ≠ a := fun e => by rw [e, ha] at hb; cases hb
        rw [upd_ne nbd, del_ne nba, hs b nba nbd, upd_ne nba]
        exact ⟨hb, hm⟩
      have mu : MutR m1 (upd (del H' a) d (.xd (ns.zip vs).reverse)) := ⟨mu1.nd, fun q hq => (mu1.at_ q hq).mono st fun u hu => by
        have nbd : q.1 ≠ d := fun e => by rw [e, hd'] at hu; cases hu
        have nba : q.1 ≠ a := fun e => by rw [e, ha] at hu; cases hu
        rw [upd_ne nbd, del_ne nba, hs _ nba nbd, upd_ne nba]
        exact hu⟩
      have nd : ¬ dom m1 d := fun zz => by obtain ⟨u, hu⟩ := mu1.there zz; rw [hd'] at hu; cases hu
      refine z _ r m1 _ _ s _ (s1.trans st) (e.step (s1.trans st) mu) ⟨rfl, .inr ⟨d, _, rfl, upd_same, nd, ?_⟩⟩ q
      exact RepF.rev (repF_zip hl (r1.mono st))
end

/-! ### try: .. except X as n: .. -/
abbrev wNo : WX := fun _ _ _ _ => False
abbrev eNo : ET := fun _ _ _ => False
theorem takes0N {X : Cx} : L2N.Takes X wNo := fun _ _ x => by
  obtain ⟨_, _, _, _, _, _, _, _, _, _, _, _, _, _, _, _, z⟩ := x
  exact z.elim
abbrev pX (P : DEnds) (i : Nat) : DEnds := { nx := fun r m => P.nx (r.set i none) m, rt := P.rt, bk := fun r m => P.bk (r.set i none) m, ct := fun r m => P.ct (r.set i none) m }
def eAs (K : PySem.W.Frag) (c : Value) (i : Nat) (ts : Addr → Value → Option Addr → TS) (P : DEnds) (E : ET) : ET := fun x r' m' => ∃ b, PySem.W.exmOne K (.ref x.C) c = some b ∧
  (b = true → ∀ a dd, Ws wNo eNo (ts a (.ref x.C) dd) (r'.set i (some (.exc a dd x.C x.ns x.ds))) m' (pX P i)) ∧ (b = false → E x r' m')
section
variable {W : WX} {E : ET} {r : Rho} {m : Mu} {K : PySem.W.Frag} {P : DEnds} {c : Value} {i : Nat} {tb : WX → TS} {ts : Addr → Value → Option Addr → TS} {te : TE} {G : Gx} {KT' : KT}
theorem repX_exc {M : Addr → Prop} {H : Hp} {x : Ex} {cls : Value} {dd : Option Addr} {a : Addr} (h : RepX M H x cls dd) : Rep M H (.exc a dd x.C x.ns x.ds) (.ref a) := by
  obtain ⟨e, h⟩ := h
  obtain ⟨C, ns, ds⟩ := x
  rcases h with ⟨rfl, h1, h2⟩ | ⟨d, gs, rfl, h2, h3, h4⟩
  · have h1' : ns = [] := h1
    have h2' : ds = [] := h2
    subst h1' h2'
    exact .excN
  · exact .excS h3 h2 h4
def tTry (K : PySem.W.Frag) (c : Value) (i : Nat) (ts : Addr → Value → Option Addr → TS) (tb : WX → TS) (W : WX) : TS := fun D σ H => tb (wAs K c i ts W D) D σ H
theorem ps_tryD {X : Cx} {x n : Str} {b₀ : Stmt} {body suite : List Stmt} {np pos pos' : Pos} (hs : X.stack = X.env :: X.outer) (hf : X.env.frame = some X.env.locals) (hN : X.N.Nodup) (hi : X.N[i]? = some n) (hln : X.env.kindOf n = some .local) (hc : Names X x c) (tk : L2N.Takes X W)
    (hb : ∀ (W : WX) (pn : List (Addr × Obj)) (xe : Value → Shared → Prop), L2N.Takes (X.tr pn xe) W → PassesOwn (model X.prog X.w) X.A X.env xe → PSs (X.tr pn xe) body (tb W))
    (hsu : ∀ (a : Addr) (oe : Obj) (cls : Value) (d : Option Addr) (pn : List (Addr × Obj)), L2N.Zn cls d oe → (∃ vs, oe.data = .fields vs) → PSs (X.suite a ((a, oe) :: pn)) (b₀ :: suite) (ts a cls d)) :
    PS X (.Try body [.ExceptHandler (some (.Name x np)) (some n) (b₀ :: suite) pos'] [] [] pos) (tTry X.K c i ts tb W) := L2N.ps_try_as hs hf hN hi hln hc tk hb hsu
theorem ws_try (h : ∀ W', Ws W' (eAs K c i ts P E) (tb W') r m P) : Ws W E (tTry K c i ts tb W) r m P := fun s H De e z g => by
  refine h (wAs K c i ts W De) s H De e ?_ g
  intro x r' m' cls dd s' H' st er rx ⟨b, hb, ht, hf⟩
  obtain rfl := rx.1
  refine ⟨b, hb, fun hbt a ha => ?_, fun hbf => z x r' m' _ dd s' H' st er rx (hf hbf)⟩
  have g' := g.step st
  refine ht hbt a dd _ H' _ (er.put (repX_exc rx)) (fun _ _ _ _ _ _ _ _ _ _ q => q.elim) ?_
  have back : ∀ {r2 : Rho} {m2 : Mu} {s2 : L2.St} {H2 : Hp}, EnvR r2 m2 s2 H2 → EnvR (r2.set i none) m2 (s2.set i none) H2 := fun e2 => ⟨e2.env.set (.none _) i, e2.mu⟩
  exact ⟨fun r2 m2 s2 H2 a2 b2 q => g'.nx _ m2 _ H2 a2 (back b2) q, g'.rt, fun r2 m2 s2 H2 a2 b2 q => g'.bk _ m2 _ H2 a2 (back b2) q, fun r2 m2 s2 H2 a2 b2 q => g'.ct _ m2 _ H2 a2 (back b2) q⟩
/-- e.f in the suite -/
def tXfD (K : PySem.W.Frag) (a : Addr) (cls : Value) (d : Option Addr) (f : Str) (te : TE) : TE := fun σ H Q => ∃ C, XfC K C ∧ PySem.W.findIn K (.ref C) f = some none ∧ tXf a cls d C f te σ H Q
theorem pe_xfD {X : Cx} {a : Addr} {oe : Obj} {cls : Value} {d : Option Addr} {pn : List (Addr × Obj)} {e : Expr} {te : TE} {pos : Pos} {f : Str}
    (hz : L2N.Zn cls d oe) (hf : ∃ vs, oe.data = .fields vs) (he : PE (X.suite a ((a, oe) :: pn)) e te) (hb : attributeBase e f X.env (eval e X.env) = eval e X.env := by rfl) :
    PE (X.suite a ((a, oe) :: pn)) (.Attribute e f pos) (tXfD X.K a cls d f te) := ⟨fun pins s σ H Q I ⟨C, T, hno, h⟩ => (pe_xf T hno hz.zc hf he hb).run pins s σ H Q I h⟩
theorem we_xf {a C : Addr} {dd : Option Addr} {f : Str} (T : XfC G.K C) (hno : PySem.W.findIn G.K (.ref C) f = some none)
    (h : We W E te r m fun d m1 => ∃ ns ds x, d = .exc a dd C ns ds ∧ fix f ns ds = some x ∧ KT' x m1) : We W E (tXfD G.K a (.ref C) dd f te) r m KT' := fun s H Q e z g =>
  ⟨C, T, hno, h s H _ e z fun d m1 v H1 s1 mu1 r1 ⟨ns, ds, x, hd, hx, k⟩ => by
    subst hd
    cases r1 with
    | excN => simp [fix] at hx
    | excS mm hh rf =>
      obtain ⟨y, h1, h2⟩ := rf.look hx
      exact ⟨rfl, rfl, _, _, y, rfl, hh, h1, g x m1 y H1 s1 mu1 h2 k⟩⟩
end
end DL
set_option Elab.async false
set_option linter.all false
set_option maxRecDepth 100000
/-! DL8: the script, the ends, the steps as a word. -/
namespace DL
open PySem PySem.Spec L2
open PyProof.Rows hiding St
theorem hotc {cls : Value} {d : Option Addr} {oe : Obj} (hz : L2N.Zn cls d oe) (hf : ∃ vs, oe.data = .fields vs) : ∃ vs, oe.data = .fields vs ∧ vs[2]? = some .none := by
  obtain ⟨vs, h⟩ := hf
  exact ⟨vs, h, hz.2.2 vs h⟩
/-- the script as the law gets it -/
inductive ScrD (KF : PySem.W.Frag) : D → List Int → Prop
  | lst {ns : List Int} : ScrD KF (.lst (ns.map D.int)) ns
  | ref {a : Addr} {ns : List Int} (h : ∀ H, SqL KF H a (ns.map V.int)) : ScrD KF (.ref a) ns
section
variable {W : WX} {E : ET} {r : Rho} {m : Mu} {K : KT} {G : Gx} {te : TE}
theorem we_slS {tl th : TO} (h : We W E te r m fun d m1 => ∃ ns, ScrD G.K d ns ∧ Wo W E tl r m1 fun lo m2 => Wo W E th r m2 fun hi m3 => K (.lst (cutD (ns.map D.int) lo hi)) m3) : We W E (tSl (rSlL G.K) te tl th) r m K := fun s H Q e z g =>
  h s H _ e z fun d m1 v H1 s1 mu1 r1 ⟨ns, sd, q⟩ => by
    refine q s H1 _ (e.step s1 mu1) (z.step s1) fun lo m2 H2 s2 mu2 q2 => ?_
    refine q2 s H2 _ ((e.step s1 mu1).step s2 mu2) ((z.step s1).step s2) fun hi m3 H3 s3 mu3 k => ?_
    have r3 := (r1.mono s2).mono s3
    cases sd with
    | lst =>
      cases r3 with
      | lst mm hh rs =>
        refine ⟨_, _, rfl, rd_l hh, fun p hp => ?_⟩
        exact g _ m3 _ _ (((s1.trans s2).trans s3).trans (Stp.new hp)) (mu3.new hp) (.lst (fun zz => by obtain ⟨u, hu⟩ := mu3.there zz; rw [hp] at hu; cases hu) (.inl upd_same) ((rs.cut lo hi).mono (Stp.new hp))) k
    | ref h =>
      cases r3
      refine ⟨_, _, rfl, h H3, fun p hp => ?_⟩
      exact g _ m3 _ _ (((s1.trans s2).trans s3).trans (Stp.new hp)) (mu3.new hp) (.lst (fun zz => by obtain ⟨u, hu⟩ := mu3.there zz; rw [hp] at hu; cases hu) (.inl upd_same) (((Reps.ints ns).cut lo hi).mono (Stp.new hp))) k
theorem scr_of {KF : PySem.W.Frag} {H : Hp} {a : Addr} {ns : List Int} (h : SqL KF H a (ns.map V.int)) : ∃ d, ScrD KF d ns ∧ Rep (dom []) H d (.ref a) := by
  rcases h with h | h
  · exact ⟨_, .lst, .lst dom_nil h (Reps.ints ns)⟩
  · exact ⟨_, .ref fun H' => .inr h, .ref a⟩
end
theorem cut63 {xs : List D} (h : xs.length ≤ 63) : cutD xs none (some 63) = xs := by
  unfold cutD
  have e1 : HT.sIx xs.length 0 none = 0 := rfl
  have e2 : HT.sIx xs.length xs.length (some 63) = xs.length := by
    rw [show (some (63 : Int)) = some ((63 : Nat) : Int) from rfl, HT.sIx_nat]
    omega
  rw [e1, e2, List.drop_zero, Nat.sub_zero, List.take_length]

theorem rH {k : Nat} {A : Around} {h : Option Value} (r : L2.Room k A) : L2H.RoomH k (A.mark h) := ⟨r.dp, r.un⟩
/-! ### sizes -/
theorem log2_of {x : Int} {n : Nat} (h : x.natAbs < 2 ^ n) (h0 : 0 < n) : x.natAbs.log2 < n := PySem.Flt.log2_lt_of h0 h
def Bd (n : Nat) (x : Int) : Prop := x.natAbs < 2 ^ n
theorem Bd.mono {a b : Nat} {x : Int} (h : Bd a x) (l : a ≤ b) : Bd b x := Nat.lt_of_lt_of_le h (Nat.pow_le_pow_right (by decide) l)
theorem Bd.mul {a b : Nat} {x y : Int} (h : Bd a x) (k : Bd b y) : Bd (a + b) (x * y) := wide_lt h k
theorem Bd.add {a : Nat} {x y : Int} (h : Bd a x) (k : Bd a y) : Bd (a + 1) (x + y) := by
  unfold Bd at *
  rw [Nat.pow_succ]
  omega
theorem Bd.sub {a : Nat} {x y : Int} (h : Bd a x) (k : Bd a y) : Bd (a + 1) (x - y) := by
  unfold Bd at *
  rw [Nat.pow_succ]
  omega
theorem Bd.neg {a : Nat} {x : Int} (h : Bd a x) : Bd a (-x) := by
  unfold Bd at *
  omega
theorem Bd.ok {a : Nat} {x : Int} (h : Bd a x) : x.natAbs.log2 ≤ a := by
  have := log2_of (n := a + 1) (h.mono (Nat.le_succ a)) (Nat.succ_pos a)
  omega
theorem Bd.mulX {a b : Nat} {x y : Int} (h : Bd a x) (k : Bd b y) (l : a + b < 100000000) : CMulX x y := by
  have := h.ok
  have := k.ok
  unfold CMulX
  omega
theorem Bd.divX {a : Nat} {x y : Int} (h : Bd a y) (n : y ≠ 0) (l : a < 9000) : CDivX x y := ⟨n, by have := h.ok; omega⟩
theorem bd_lit {x : Int} {n : Nat} (h : x.natAbs.blt (2 ^ n) = true) : Bd n x := Nat.le_of_ble_eq_true h

/-! ### the pot that a law draws from -/
def PotM (p : Addr) (m0 m : Mu) : Prop := ∃ (cs : List Int) (i r : Int), m = (p, .lst [.lst (cs.map D.int), .int i, .int r]) :: m0 ∧ 0 ≤ i ∧ 0 ≤ r ∧ ∀ c ∈ cs, 0 ≤ c
def S_pot (KF : PySem.W.Frag) : SpecD := fun ds m K _ => ∃ d ns, ds = [d] ∧ ScrD KF d ns ∧ ns.length ≤ 63 ∧ ∀ p m', ¬ dom m p → PotM p m m' → K (.ref p) m'
def S_digit : SpecD := fun ds m K _ => ∃ p many m0, ds = [.ref p, .int many] ∧ 0 < many ∧ Bd 8000 many ∧ PotM p m0 m ∧ ∀ dg m', 0 ≤ dg → dg < many → PotM p m0 m' → K (.int dg) m'

theorem cx_G {G : Gx} {N : List Str} {qual : Str} {st : Stmt} {f : Addr} {cdv : Value} {A : Around} {outer : List Env} {s : Shared} {H : Hp} {F : XK} : Gx.of (cxG G N qual st f cdv A outer s H F) = G := rfl
theorem cx_K {G : Gx} {N : List Str} {qual : Str} {st : Stmt} {f : Addr} {cdv : Value} {A : Around} {outer : List Env} {s : Shared} {H : Hp} {F : XK} : (cxG G N qual st f cdv A outer s H F).K = G.K := rfl
theorem cxH_G {G : Gx} {N : List Str} {qual : Str} {st : Stmt} {f : Addr} {cdv : Value} {A : Around} {outer : List Env} {s : Shared} {H : Hp} {F : XK} {p : Addr × Obj} : Gx.of (cxGH G N qual st f cdv A outer s H F p) = G := rfl
theorem cxH_K {G : Gx} {N : List Str} {qual : Str} {st : Stmt} {f : Addr} {cdv : Value} {A : Around} {outer : List Env} {s : Shared} {H : Hp} {F : XK} {p : Addr × Obj} : (cxGH G N qual st f cdv A outer s H F p).K = G.K := rfl
/-- an item of a list of numbers -/
theorem atI_ints {cs : List Int} {i : Int} (h0 : 0 ≤ i) (h1 : i < (cs.length : Int)) : ∃ c, c ∈ cs ∧ atI (cs.map D.int) i = some (.int c) := by
  obtain ⟨n, rfl⟩ := Int.eq_ofNat_of_zero_le h0
  have hn : n < cs.length := by omega
  refine ⟨cs[n], List.getElem_mem hn, atI_nat ?_⟩
  rw [List.getElem?_map, List.getElem?_eq_getElem hn]
  rfl
theorem use_digit {p : Addr} {many : Int} {m m0 : Mu} {K : KT} {E : Ex → Mu → Prop} (h0 : 0 < many) (hb : Bd 8000 many) (hm : PotM p m0 m) (k : ∀ dg m', 0 ≤ dg → dg < many → PotM p m0 m' → K (.int dg) m') : S_digit [.ref p, .int many] m K E :=
  ⟨p, many, m0, rfl, h0, hb, hm, k⟩

section
variable {W : WX} {E : ET} {r : Rho} {m : Mu} {K : KT} {S : SpecD} {n : Nat} {t : TA} {C : Addr} {G : Gx} {te : TE}
theorem Wa.imp {KA KA' : List D → Mu → Prop} (h : Wa W E t r m KA) (k : ∀ ds m', KA ds m' → KA' ds m') : Wa W E t r m KA' := fun s H Q e z g => h s H Q e z fun ds m' vs H' a b c x => g ds m' vs H' a b c (k ds m' x)
theorem we_cl0 (h : Wa W E t r m fun ds m1 => ds.length = n ∧ S ds m1 K fun x m' => E x r m') : We W E (tCl n S [] W t) r m K :=
  we_cl rfl (h.imp fun ds m' k => by rw [List.append_nil]; exact k)
theorem we_mk0 (h : Wa W E t r m fun ds m1 => ds.length + 1 = n ∧ ∀ x, ¬ dom m1 x →
    S (.ref x :: ds) ((x, .ins C [] []) :: m1) (fun d m2 => ∃ ns fs, d = .non ∧ m2 = (x, .ins C ns fs) :: m1 ∧ K (.ins C ns fs) m1) fun ex m2 => ∃ o, m2 = (x, o) :: m1 ∧ E ex r m1) : We W E (tMk C n S [] W t) r m K :=
  we_mk rfl (h.imp fun ds m' k => by rw [List.append_nil]; exact k)
/-- one more argument by default -/
theorem we_mk1 {d1 : D} (hc : isC d1 = true) (h : Wa W E t r m fun ds m1 => ds.length + 1 + 1 = n ∧ ∀ x, ¬ dom m1 x →
    S (.ref x :: (ds ++ [d1])) ((x, .ins C [] []) :: m1) (fun d m2 => ∃ ns fs, d = .non ∧ m2 = (x, .ins C ns fs) :: m1 ∧ K (.ins C ns fs) m1) fun ex m2 => ∃ o, m2 = (x, o) :: m1 ∧ E ex r m1) : We W E (tMk C n S [d1] W t) r m K :=
  we_mk (by rw [List.all_cons, hc]; rfl) (h.imp fun ds m' k => ⟨by rw [List.length_append]; exact k.1, k.2⟩)
/-- a field of a fixed instance -/
theorem we_fldF {f : Str} (h : We W E te r m fun d m1 => ∃ C ns ds x, d = .ins C ns ds ∧ Cls G.K C ∧ NoAttr G.K C f ∧ fix f ns ds = some x ∧ K x m1) : We W E (tFld G.K te f) r m K :=
  we_fld (h.imp fun d m1 ⟨C, ns, ds, x, hd, q⟩ => ⟨C, ns, ds, x, by rw [hd]; exact .fixed, q⟩)
end
/-! ### Ratio: top, bottom -/
abbrev rat (C : Addr) (t b : Int) : D := .ins C ["top", "bottom"] [.int t, .int b]
theorem fix_top {a b : D} : fix "top" ["top", "bottom"] [a, b] = some a := by simp [fix]
theorem nbt : ¬ (("bottom" : Str) = "top") := by decide +kernel
theorem ntb : ¬ (("top" : Str) = "bottom") := by decide +kernel
theorem fix_bottom {a b : D} : fix "bottom" ["top", "bottom"] [a, b] = some b := by simp [fix, nbt]
structure RatC (K : PySem.W.Frag) (C : Addr) : Prop where
  ins : InsK K C
  at_ : NoAttr K C "top"
  ab : NoAttr K C "bottom"
section
variable {K : PySem.W.Frag} {KK : D → Prop} {C : Addr} {t b : Int}
theorem fld_top (R : RatC K C) (h : KK (.int t)) : ∃ C' ns ds x, rat C t b = .ins C' ns ds ∧ Cls K C' ∧ NoAttr K C' "top" ∧ fix "top" ns ds = some x ∧ KK x := ⟨_, _, _, _, rfl, R.ins.cl, R.at_, fix_top, h⟩
theorem fld_bottom (R : RatC K C) (h : KK (.int b)) : ∃ C' ns ds x, rat C t b = .ins C' ns ds ∧ Cls K C' ∧ NoAttr K C' "bottom" ∧ fix "bottom" ns ds = some x ∧ KK x := ⟨_, _, _, _, rfl, R.ins.cl, R.ab, fix_bottom, h⟩
end

theorem kit_ii {K : PySem.W.Frag} : PySem.W.kitOne K (.type "int") (.type "int") = some true := kit_ty (by decide +kernel)
theorem kit_ib {K : PySem.W.Frag} : PySem.W.kitOne K (.type "int") (.type "bool") = some false := kit_ty (by decide +kernel)
section
variable {K : PySem.W.Frag} {C : Addr} {m0 : Mu} {x : Addr} {d e : D} {N : Mu → Prop}
theorem cont_tb : (["top"] : List Str).contains "bottom" = false := by decide +kernel
theorem setN_top (R : RatC K C) (h : N ((x, .ins C ["top"] [d]) :: m0)) : ∃ p C' ns ds m3, D.ref x = .ref p ∧ At ((x, MO.ins C [] []) :: m0) p (.ins C' ns ds) ∧ Cls K C' ∧ NoAttr K C' "top" ∧ ns.contains "top" = false ∧ Nat.ble ns.length 900 = true ∧ Put ((x, MO.ins C [] []) :: m0) p (.ins C' (ns ++ [("top" : Str)]) (ds ++ [d])) m3 ∧ N m3 :=
  ⟨_, _, _, _, _, rfl, .head, R.ins.cl, R.at_, rfl, rfl, .head, h⟩
theorem setN_bottom (R : RatC K C) (h : N ((x, .ins C ["top", "bottom"] [d, e]) :: m0)) : ∃ p C' ns ds m3, D.ref x = .ref p ∧ At ((x, MO.ins C ["top"] [d]) :: m0) p (.ins C' ns ds) ∧ Cls K C' ∧ NoAttr K C' "bottom" ∧ ns.contains "bottom" = false ∧ Nat.ble ns.length 900 = true ∧ Put ((x, MO.ins C ["top"] [d]) :: m0) p (.ins C' (ns ++ [("bottom" : Str)]) (ds ++ [e])) m3 ∧ N m3 :=
  ⟨_, _, _, _, _, rfl, .head, R.ins.cl, R.ab, cont_tb, rfl, .head, h⟩
end
/-- what is left mutable at a return is let go -/
theorem MutR.dropn {H : Hp} : ∀ {m : Mu} (k : Nat), MutR m H → MutR (m.drop k) H
  | _, 0, h => h
  | [], _ + 1, h => h
  | _ :: m, k + 1, h => MutR.dropn (m := m) k h.drop
theorem dom_dropn {a : Addr} : ∀ {m : Mu} (k : Nat), dom (m.drop k) a → dom m a
  | _, 0, h => h
  | [], _ + 1, h => h
  | _ :: m, k + 1, h => dom_cons.mpr (.inr (dom_dropn (m := m) k h))
theorem Ws.shed {W : WX} {E : ET} {t : TS} {r : Rho} {m : Mu} {P : DEnds} (h : Ws W E t r m { P with rt := fun d m' => ∃ k, P.rt d (m'.drop k) }) : Ws W E t r m P := fun s H De e z g =>
  h s H De e z ⟨g.nx, fun d m' v H' a b c ⟨k, q⟩ => by
    have ls : Stp (dom m') H' (dom (m'.drop k)) H' := Stp.less fun a z => dom_dropn k z
    exact g.rt d _ v H' (a.trans ls) (b.dropn k) (c.mono ls) q, g.bk, g.ct⟩
/-- a list of a function's values, from the end -/
theorem atI_neg {α : Type} {xs : List α} {n : Nat} {v : α} (h0 : 0 < n) (hn : n ≤ xs.length) (h : xs[xs.length - n]? = some v) : atI xs (-(n : Int)) = some v := by
  unfold atI ixN
  rw [if_neg (by omega), if_pos (by omega)]
  have e : (-(n : Int) + (xs.length : Int)).toNat = xs.length - n := by omega
  rw [e]
  exact h
theorem range_at {f : Nat → D} {n i : Nat} (h : i < n) : ((List.range n).map f)[i]? = some (f i) := by
  rw [List.getElem?_map, List.getElem?_range h]
  rfl
theorem range_m1 {f : Nat → D} (k : Nat) : atI ((List.range (k + 1)).map f) (-1) = some (f k) :=
  atI_neg (n := 1) (by omega) (by simp) (by simp only [List.length_map, List.length_range]; exact range_at (by omega))
theorem range_m2 {f : Nat → D} (k : Nat) : atI ((List.range (k + 2)).map f) (-2) = some (f k) :=
  atI_neg (n := 2) (by omega) (by simp) (by simp only [List.length_map, List.length_range]; exact range_at (by omega))
theorem range_snoc {f : Nat → D} (k : Nat) : (List.range k).map f ++ [f k] = (List.range (k + 1)).map f := by
  rw [List.range_succ, List.map_append]
  rfl
theorem pe_gcD {X : Cx} {x : Str} {v : V} {pos : Pos} (hg : Gl X x) (h : ∃ u, X.mg x = some u ∧ RelV v u) (hd : (x == ("__debug__" : Str)) = false := by decide) : PE X (.Name x pos) (tC v) := by
  obtain ⟨u, hm, r⟩ := h
  exact pe_glob hg hm r hd
/-! ### the end -/
def S_law (KF : PySem.W.Frag) : SpecD := fun ds m KK _ => ∃ d ns, ds = [d] ∧ ScrD KF d ns ∧ ns.length ≤ 63 ∧ (∀ z ∈ ns, Builtin.Int.intBits z ≤ 1048576) ∧ m = [] ∧ ∀ m', KK (.bl true) m'
theorem walkB {l : PySem.W.OpenLaw} {k : Nat} {q : Program} {loose : List Str} {XP : (Str → Option Value) → Heap → Prop} {YP : World → Heap → Prop} {d : DefRec} {K : Params → PySem.W.Frag} {x : Str}
    (hn : l.most = some 63) (hdf : d.params.defaults = []) (hr : Room k callerA)
    (hY : ∀ (w : World) (h : Heap), YP w h → (K w.params).In h)
    (F : ∀ (w : World) (mg : Str → Option Value) (fa : Addr) (h : Heap), (K w.params).In h → h.Ns mainGlobals mg → mg d.name = some (.ref fa) →
      ∃ fd : FuncData, (∀ (s : Shared) (u : Value), BindsTo s fd ⟨[u], []⟩ [(x, u)]) ∧
        ∀ base : Heap, (K w.params).In base → base.Ns mainGlobals mg → FnOk l.prog w (K w.params) mg base (L2N.CX l.prog w) k fa fd [x] (spD 1 (S_law (K w.params)))) :
    PySem.W.WalkO q loose XP YP l.row.toRowW d [] (fun f vs => PySem.call f vs) :=
  L2.walk_ofB (n := 63) (k := k) (x := x) (CX := fun w => L2N.CX l.prog w) (sp := fun w => spD 1 (S_law (K w.params))) hn (by decide) hdf hr hY F
    (fun w H a ns hl hb _ h => by
      obtain ⟨dd, sd, rp⟩ := scr_of h
      exact ⟨[dd], [], fun d' _ => d' = .bl true, fun _ _ => False, rfl, .cons rp .nil, MutR.nil H, ⟨dd, ns, rfl, sd, hl, hb, rfl, fun m' => rfl⟩, fun d' m' v H' _ _ rp' e => by subst e; cases rp'; rfl, fun _ _ _ _ _ _ _ _ e => e.elim⟩)
    fun w H s e s' z => by
      obtain ⟨_, _, _, _, _, _, _, _, _, _, _, _, z⟩ := z
      exact z.elim
end DL
set_option Elab.async false
set_option linter.all false
set_option maxRecDepth 100000
/-! DL9: isinstance of a caught error; errors made without arguments; several except clauses. -/
namespace DL
open PySem PySem.Spec L2
open PyProof.Rows hiding St
/-- the class of a caught error, as isinstance asks -/
structure ExK (K : PySem.W.Frag) (D : Addr) : Prop where
  xf : XfC K D
  ic : PySem.W.isClsIn K D = true
  ha : PySem.W.findIn K (.ref D) "__class__" = some (some (.builtin "object.__class__"))
  hn : PySem.W.specialIn K (.builtin "object.__class__") "__get__" = some (some (.builtin "getset_descriptor.__get__"))
  ht : PySem.W.takesIn K (.builtin "object.__class__") = some true
  hm : PySem.W.mroIn K D (.type "object") = some true
def cIsE (K : PySem.W.Frag) (a : Addr) (cls : Value) (d : Option Addr) : OC := fun xs _ H Q => ∃ (D : Addr) (c : V) (u : Value) (b : Bool), cls = .ref D ∧ ExK K D ∧ xs = [.ref a, c] ∧ ClsV c u ∧ PySem.W.kitOne K (.ref D) u = some b ∧
  (d = none ∨ ∃ (dd : Addr) (gs : List (Str × V)), d = some dd ∧ H dd = some (.xd gs)) ∧ Q (.bl b) H
theorem cs_isE {X : Cx} {a : Addr} {cls : Value} {d : Option Addr} {oe : Obj} {pn : List (Addr × Obj)} (hz : L2N.Zn cls d oe) (hf : ∃ vs, oe.data = .fields vs) : CallS (X.suite a ((a, oe) :: pn)) (.builtin "isinstance") (cIsE X.K a cls d) := by
  intro pins s σ H xs us Q I ru h
  obtain ⟨D, c, u, b, rfl, T, rfl, hc, hk, hd, q⟩ := h
  cases ru with
  | cons ra rt =>
    cases rt with
    | cons rc rt =>
      cases rt
      cases ra
      have ec := hc.eq rc
      subst ec
      obtain ⟨hget, _⟩ := I.pin (a, oe) (List.mem_append_left _ List.mem_cons_self)
      obtain ⟨vs, hv⟩ := hf
      have hno : PySem.W.notCls oe = true := by unfold PySem.W.notCls; rw [hv] <;> rfl
      have J : ∃ od, PySem.W.InstAt s.heap a oe D od := by
        rcases hd with rfl | ⟨dd, gs, rfl, hx⟩
        · exact ⟨none, hget, hz.1, hno, by rw [hz.2.1]; trivial⟩
        · have hx : ObjOk X.prog X.w H s.heap dd (.xd gs) := I.hok dd _ hx
          obtain ⟨mA, hns, _⟩ := hx
          obtain ⟨od, ho, _⟩ := lookIn_ns hns
          exact ⟨some od, hget, hz.1, hno, by rw [hz.2.1]; exact ho⟩
      obtain ⟨od, J⟩ := J
      exact PySem.W.kia_one (PySem.W.kitx_exc T.ic T.xf.ga T.xf.gg T.xf.exC T.ha T.hn T.ht T.hm) I.kIn J hk (fun z => nomatch z) fun tk => ⟨.bl b, H, I.kept (t' := tk) fun _ _ z => z, rfl, q⟩
section
variable {W : WX} {E : ET} {r : Rho} {m : Mu} {K : KT} {G : Gx} {a C : Addr} {dd : Option Addr} {ns : List Str} {ds : List D}
theorem exc_dd {M : Addr → Prop} {H : Hp} {v : V} (h : Rep M H (.exc a dd C ns ds) v) : v = .ref a ∧ (dd = none ∨ ∃ (x : Addr) (gs : List (Str × V)), dd = some x ∧ H x = some (.xd gs)) := by
  cases h with
  | excN => exact ⟨rfl, .inl rfl⟩
  | excS mm hh rr => exact ⟨rfl, .inr ⟨_, _, rfl, hh⟩⟩
theorem wc_isEC {B : Addr} {b : Bool} (T : ExK G.K C) (hk : PySem.W.kitOne G.K (.ref C) (.ref B) = some b) (h : K (.bl b) m) : Wc W E (cIsE G.K a (.ref C) dd) [.exc a dd C ns ds, .ref B] r m K := fun s H Q vs e z rs g => by
  cases rs with
  | cons x tt =>
    cases tt with
    | cons c tt =>
      cases tt; cases c
      obtain ⟨rfl, hd⟩ := exc_dd x
      exact ⟨C, _, .ref B, b, rfl, T, rfl, .own B, hk, hd, g _ m _ H (Stp.refl _ _) e.mu (.bl _) h⟩
theorem wc_isET {n : String} {b : Bool} (T : ExK G.K C) (hk : PySem.W.kitOne G.K (.ref C) (.type n) = some b) (h : K (.bl b) m) : Wc W E (cIsE G.K a (.ref C) dd) [.exc a dd C ns ds, .ty n] r m K := fun s H Q vs e z rs g => by
  cases rs with
  | cons x tt =>
    cases tt with
    | cons c tt =>
      cases tt; cases c
      obtain ⟨rfl, hd⟩ := exc_dd x
      exact ⟨C, _, .type n, b, rfl, T, rfl, .ty n, hk, hd, g _ m _ H (Stp.refl _ _) e.mu (.bl _) h⟩
end
/-! ### raise C(), C an own class without an __init__ -/
structure Exc0 (G : Gx) (x : Str) (C : Addr) : Prop where
  q : PySem.W.excIn G.K C [.type "ValueError", .type "Exception", .type "BaseException", .type "object"] "ValueError.__new__" = true
  kC : PySem.W.keepIn G.K (.ref C) = true
  exC : PySem.W.subIn G.K (.ref C) (.type "BaseException") = some true
  tyC : PySem.W.typeIn G.K (.ref C) = some (.type "type")
  mgC : G.mg x = some (.ref C)
def tRs0 (C : Addr) (W : WX) : TS := fun _ σ H => W (.ref C) none σ H
section
variable {X : Cx} {W : WX} {E : ET} {x : Str} {C : Addr} {p pos pos' : Pos} {r : Rho} {m : Mu} {P : DEnds}
theorem pmkN_own0 (c : Exc0 (Gx.of X) x C) (hg : Gl X x) (hdb : (x == ("__debug__" : Str)) = false := by decide) : L2N.PMk X (.Call (.Name x p) [] [] pos) (fun _ H Q => Q (.ref C) none H) := by
  intro pins s σ H Q I h
  refine wpAny_Call_Name_kw (ld_glob I hg c.mgC ?_ hdb)
  refine PySem.W.callWith_K0 I.kIn c.kC ?_
  obtain ⟨bm, Na, nm, qn, bs, hdct, sn, sub, ab, col, dd, k0, k1, k2, k3, k5, mN, hC, hN, hni, T⟩ := exc_obj I.kIn c.q
  exact wpAny_call_exc_subT PySem.F.excBase_ValueError T hC hN hni (fun h' e hm => L2N.mk_of I hm (raises_own c.exC c.tyC) h (I.hok.gone hm.new)) (by show 0 ≤ sizeLine; exact Nat.zero_le _)
theorem ps_rs0 (c : Exc0 (Gx.of X) x C) (hc : X.calm = true) (tk : L2N.Takes X W) (hg : Gl X x) (hdb : (x == ("__debug__" : Str)) = false := by decide) :
    PS X (.Raise (some (.Call (.Name x p) [] [] pos)) none pos') (tRs0 C W) := L2N.ps_raise hc tk (pmkN_own0 c hg hdb)
theorem ws_rs0 (h : E ⟨C, [], []⟩ r m) : Ws W E (tRs0 C W) r m P := fun s H De e z g => z _ r m _ _ s H (Stp.refl _ _) e ⟨rfl, .inl ⟨rfl, rfl, rfl⟩⟩ h
end
/-! ### several clauses: except C1 as n: .., except C2 as n: .. -/
end DL
set_option Elab.async false
set_option linter.all false
/-! MR: fractions in lowest terms, Euclid's turns. -/
namespace DL
open PySem PySem.Spec L2
/-! ### lowest terms -/
def gc (t b : Int) : Int := (Nat.gcd t.natAbs b.natAbs : Nat)
def rT (t b : Int) : Int := if b < 0 then -t / gc t b else t / gc t b
def rB (t b : Int) : Int := if b < 0 then -b / gc t b else b / gc t b
theorem gc_pos {t b : Int} (h : b ≠ 0) : 0 < gc t b := by
  have : 0 < Nat.gcd t.natAbs b.natAbs := Nat.gcd_pos_of_pos_right _ (by omega)
  unfold gc; omega
theorem gc_dvd1 (t b : Int) : gc t b ∣ t := Int.ofNat_dvd_left.mpr (Nat.gcd_dvd_left _ _)
theorem gc_dvd2 (t b : Int) : gc t b ∣ b := Int.ofNat_dvd_left.mpr (Nat.gcd_dvd_right _ _)
theorem gc_bd {t b : Int} {n : Nat} (h : b ≠ 0) (hb : Bd n b) : Bd n (gc t b) := by
  have : Nat.gcd t.natAbs b.natAbs ≤ b.natAbs := Nat.le_of_dvd (by omega) (Nat.gcd_dvd_right _ _)
  unfold Bd gc at *
  omega
theorem fdiv_pos {a g : Int} (h : 0 < g) : a.fdiv g = a / g := Int.fdiv_eq_ediv_of_nonneg _ (by omega)
theorem fdiv_neg' {a g : Int} (h : 0 < g) (d : g ∣ a) : a.fdiv (-g) = -a / g := by
  obtain ⟨c, rfl⟩ := d
  have e1 : g * c = (-g) * (-c) := by rw [Int.neg_mul_neg]
  have e2 : -(g * c) = g * (-c) := by rw [Int.mul_neg]
  rw [e2, Int.mul_ediv_cancel_left _ (by omega), e1, Int.mul_comm]
  exact Int.mul_fdiv_cancel _ (by omega)
/-- t = g * rT up to the sign of b -/
theorem rat_eqs {t b : Int} (h : b ≠ 0) : ∃ g : Int, g ≠ 0 ∧ t = g * rT t b ∧ b = g * rB t b ∧ 0 < rB t b := by
  have gp := gc_pos (t := t) h
  obtain ⟨c, hc⟩ := gc_dvd1 t b
  obtain ⟨d, hd⟩ := gc_dvd2 t b
  by_cases hb : b < 0
  · refine ⟨-gc t b, by omega, ?_, ?_, ?_⟩
    · unfold rT; rw [if_pos hb]
      have : -t / gc t b = -c := by
        have e : -t = gc t b * (-c) := by rw [Int.mul_neg, ← hc]
        rw [e, Int.mul_ediv_cancel_left _ (by omega)]
      rw [this, Int.neg_mul_neg]; exact hc
    · unfold rB; rw [if_pos hb]
      have : -b / gc t b = -d := by
        have e : -b = gc t b * (-d) := by rw [Int.mul_neg, ← hd]
        rw [e, Int.mul_ediv_cancel_left _ (by omega)]
      rw [this, Int.neg_mul_neg]; exact hd
    · unfold rB; rw [if_pos hb]
      exact Int.ediv_pos_of_pos_of_dvd (by omega) (by omega) (Int.dvd_neg.mpr ⟨d, hd⟩)
  · refine ⟨gc t b, by omega, ?_, ?_, ?_⟩
    · unfold rT; rw [if_neg hb]
      have : t / gc t b = c := by
        have e : t = gc t b * c := hc
        rw [show t / gc t b = (gc t b * c) / gc t b by rw [← e], Int.mul_ediv_cancel_left _ (by omega)]
      rw [this]; exact hc
    · unfold rB; rw [if_neg hb]
      have : b / gc t b = d := by
        have e : b = gc t b * d := hd
        rw [show b / gc t b = (gc t b * d) / gc t b by rw [← e], Int.mul_ediv_cancel_left _ (by omega)]
      rw [this]; exact hd
    · unfold rB; rw [if_neg hb]
      exact Int.ediv_pos_of_pos_of_dvd (by omega) (by omega) ⟨d, hd⟩
theorem natAbs_div {a : Int} {g : Nat} (h : 0 < g) (d : (g : Int) ∣ a) : (a / (g : Int)).natAbs = a.natAbs / g := by
  obtain ⟨c, rfl⟩ := d
  rw [Int.mul_ediv_cancel_left _ (by omega), Int.natAbs_mul, Int.natAbs_natCast, Nat.mul_div_cancel_left _ h]
theorem rat_gcd {t b : Int} (h : b ≠ 0) : Nat.gcd (rT t b).natAbs (rB t b).natAbs = 1 := by
  have gp : 0 < Nat.gcd t.natAbs b.natAbs := Nat.gcd_pos_of_pos_right _ (by omega)
  have e1 : (rT t b).natAbs = t.natAbs / Nat.gcd t.natAbs b.natAbs := by
    unfold rT
    split
    · have := natAbs_div (a := -t) gp (Int.dvd_neg.mpr (gc_dvd1 t b))
      rw [Int.natAbs_neg] at this; exact this
    · exact natAbs_div gp (gc_dvd1 t b)
  have e2 : (rB t b).natAbs = b.natAbs / Nat.gcd t.natAbs b.natAbs := by
    unfold rB
    split
    · have := natAbs_div (a := -b) gp (Int.dvd_neg.mpr (gc_dvd2 t b))
      rw [Int.natAbs_neg] at this; exact this
    · exact natAbs_div gp (gc_dvd2 t b)
  rw [e1, e2]
  rw [Nat.gcd_div (Nat.gcd_dvd_left _ _) (Nat.gcd_dvd_right _ _)]
  exact Nat.div_self gp
theorem rat_bd {t b : Int} {n : Nat} (h : b ≠ 0) (ht : Bd n t) : Bd n (rT t b) := by
  obtain ⟨g, hg, e, _⟩ := rat_eqs (t := t) h
  have : t.natAbs = g.natAbs * (rT t b).natAbs := by rw [← Int.natAbs_mul, ← e]
  have hp : 1 ≤ g.natAbs := by omega
  have : (rT t b).natAbs ≤ t.natAbs := by
    rw [this]
    calc (rT t b).natAbs = 1 * (rT t b).natAbs := (Nat.one_mul _).symm
      _ ≤ _ := Nat.mul_le_mul_right _ hp
  unfold Bd at *
  omega
theorem rat_bdB {t b : Int} {n : Nat} (h : b ≠ 0) (ht : Bd n b) : Bd n (rB t b) := by
  obtain ⟨g, hg, _, e, _⟩ := rat_eqs (t := t) h
  have : b.natAbs = g.natAbs * (rB t b).natAbs := by rw [← Int.natAbs_mul, ← e]
  have hp : 1 ≤ g.natAbs := by omega
  have : (rB t b).natAbs ≤ b.natAbs := by
    rw [this]
    calc (rB t b).natAbs = 1 * (rB t b).natAbs := (Nat.one_mul _).symm
      _ ≤ _ := Nat.mul_le_mul_right _ hp
  unfold Bd at *
  omega
/-! ### Euclid's turns -/
def Eu (a k x y : Nat) : Prop := (k = 0 ∧ x < 2 ^ a ∧ y < 2 ^ a) ∨ (1 ≤ k ∧ k ≤ a + a + 1 ∧ y < x ∧ x * y * 2 ^ (k - 1) < 2 ^ (a + a))
theorem Eu.step {a k x y : Nat} (h : Eu a k x y) (hy : 0 < y) : Eu a (k + 1) y (x % y) := by
  have hm := Nat.mod_lt x hy
  rcases h with ⟨rfl, h1, h2⟩ | ⟨h1, h2, h3, h4⟩
  · refine .inr ⟨by omega, by omega, hm, ?_⟩
    rw [show (0 + 1 - 1 : Nat) = 0 from rfl, Nat.pow_zero, Nat.mul_one, Nat.pow_add]
    exact Nat.mul_lt_mul'' h2 (Nat.lt_of_le_of_lt (Nat.mod_le _ _) h1)
  · have hx : 1 ≤ x * y := Nat.mul_pos (by omega) hy
    have l1 : 2 ^ (k - 1) < 2 ^ (a + a) := Nat.lt_of_le_of_lt (by
      calc 2 ^ (k - 1) = 1 * 2 ^ (k - 1) := (Nat.one_mul _).symm
        _ ≤ x * y * 2 ^ (k - 1) := Nat.mul_le_mul_right _ hx) h4
    have l2 : k - 1 < a + a := (Nat.pow_lt_pow_iff_right (by decide)).mp l1
    refine .inr ⟨by omega, by omega, hm, ?_⟩
    have e : 2 ^ (k + 1 - 1) = 2 * 2 ^ (k - 1) := by
      rw [show k + 1 - 1 = (k - 1) + 1 by omega, Nat.pow_succ, Nat.mul_comm]
    have two : 2 * (x % y) ≤ x := by
      have e1 := Nat.div_add_mod x y
      have q : 1 ≤ x / y := (Nat.one_le_div_iff hy).mpr (by omega)
      have : y * 1 ≤ y * (x / y) := Nat.mul_le_mul_left _ q
      omega
    calc y * (x % y) * 2 ^ (k + 1 - 1) = y * (2 * (x % y)) * 2 ^ (k - 1) := by rw [e]; ac_rfl
      _ ≤ y * x * 2 ^ (k - 1) := Nat.mul_le_mul_right _ (Nat.mul_le_mul_left _ two)
      _ = x * y * 2 ^ (k - 1) := by rw [Nat.mul_comm y x]
      _ < _ := h4
theorem Eu.early {a k x y : Nat} (h : Eu a k x y) (hk : a + a + 1 < k) : False := by
  rcases h with ⟨rfl, _⟩ | ⟨_, h, _⟩ <;> omega

/-- lowest terms stay -/
theorem rat_low {t b : Int} (h : 0 < b) (g : Nat.gcd t.natAbs b.natAbs = 1) : rT t b = t ∧ rB t b = b := by
  have e : gc t b = 1 := by
    unfold gc
    rw [g]
    rfl
  unfold rT rB
  rw [if_neg (by omega), if_neg (by omega), e, Int.ediv_one, Int.ediv_one]
  exact ⟨rfl, rfl⟩
structure Lo (a : Nat) (t b : Int) : Prop where
  pos : 0 < b
  gcd : Nat.gcd t.natAbs b.natAbs = 1
  bt : Bd a t
  bb : Bd a b
theorem lo_rat {a : Nat} {t b : Int} (h0 : b ≠ 0) (ht : Bd a t) (hb : Bd a b) : Lo a (rT t b) (rB t b) := by
  obtain ⟨g, _, _, _, hp⟩ := rat_eqs (t := t) h0
  exact ⟨hp, rat_gcd h0, rat_bd h0 ht, rat_bdB h0 hb⟩
/-- the same number, both in lowest terms -/
theorem low_eq {t b x y : Int} (hb : 0 < b) (hy : 0 < y) (g : Nat.gcd t.natAbs b.natAbs = 1) (k : Nat.gcd x.natAbs y.natAbs = 1) (e : t * y = x * b) : t = x ∧ b = y := by
  have e' : t.natAbs * y.natAbs = x.natAbs * b.natAbs := by rw [← Int.natAbs_mul, ← Int.natAbs_mul, e]
  have d1 : b.natAbs ∣ y.natAbs := by
    have : b.natAbs ∣ t.natAbs * y.natAbs := ⟨x.natAbs, by rw [e', Nat.mul_comm]⟩
    exact (Nat.Coprime.symm g).dvd_of_dvd_mul_left this
  have d2 : y.natAbs ∣ b.natAbs := by
    have : y.natAbs ∣ x.natAbs * b.natAbs := ⟨t.natAbs, by rw [← e', Nat.mul_comm]⟩
    exact (Nat.Coprime.symm k).dvd_of_dvd_mul_left this
  have eb : b.natAbs = y.natAbs := Nat.dvd_antisymm d1 d2
  have ey : b = y := by omega
  subst ey
  exact ⟨Int.eq_of_mul_eq_mul_right (by omega) e, rfl⟩
theorem rat_scale {a b k : Int} (hb : b ≠ 0) (hk : k ≠ 0) : rT (a * k) (b * k) = rT a b ∧ rB (a * k) (b * k) = rB a b := by
  have hbk : b * k ≠ 0 := Int.mul_ne_zero hb hk
  obtain ⟨g, hg, e1, e2, p1⟩ := rat_eqs (t := a) hb
  obtain ⟨h, hh, e3, e4, p2⟩ := rat_eqs (t := a * k) hbk
  refine low_eq p2 p1 (rat_gcd hbk) (rat_gcd hb) ?_
  refine Int.eq_of_mul_eq_mul_left (Int.mul_ne_zero hh hg) ?_
  generalize rT (a * k) (b * k) = A at *
  generalize rB (a * k) (b * k) = B at *
  generalize rT a b = P at *
  generalize rB a b = Q at *
  subst e1 e2
  grind
theorem Bd.addS {a b : Nat} {x y : Int} (h : Bd a x) (k : Bd b y) : Bd (a + b + 1) (x + y) := (h.mono (Nat.le_add_right a b)).add (k.mono (Nat.le_add_left b a))
theorem Bd.subS {a b : Nat} {x y : Int} (h : Bd a x) (k : Bd b y) : Bd (a + b + 1) (x - y) := (h.mono (Nat.le_add_right a b)).sub (k.mono (Nat.le_add_left b a))
theorem Ws.cut {W : WX} {E : ET} {t : TS} {r : Rho} {m : Mu} {P : DEnds} (I : Rho → Mu → Prop) (h : Ws W E t r m { P with nx := I }) (k : ∀ r' m', I r' m' → P.nx r' m') : Ws W E t r m P := fun s H De e z g =>
  h s H De e z ⟨fun r' m' s' H' a b q => g.nx r' m' s' H' a b (k r' m' q), g.rt, g.bk, g.ct⟩
end DL
set_option Elab.async false
set_option linter.all false
set_option maxRecDepth 100000
/-! DL10: short words for methods and own operators. -/
namespace DL
open PySem PySem.Spec L2
open PyProof.Rows hiding St
section
variable {W : WX} {E : ET} {r : Rho} {m : Mu} {K : KT} {G : Gx} {t : TA} {j k n : Nat} {C : Addr} {ns : List Str} {ds : List D} {S : SpecD} {dd : List D} {mt : Str}
theorem mt_of (M : Met G k C ns mt n S dd) (cs : dd.all isC = true) (hk : k ≤ j) (h : Wa W E t r m fun es m2 => (D.ins C ns ds :: (es ++ dd)).length = n ∧ S (D.ins C ns ds :: (es ++ dd)) m2 K fun x m' => E x r m') :
    ∃ (k n : Nat) (C' : Addr) (ns' : List Str) (S : SpecD) (dd : List D), Met G k C' ns' mt n S dd ∧ dd.all isC = true ∧ k ≤ j ∧ InsD (D.ins C ns ds) m C' ns' ∧
    Wa W E t r m fun es m2 => (D.ins C ns ds :: (es ++ dd)).length = n ∧ S (D.ins C ns ds :: (es ++ dd)) m2 K fun x m' => E x r m' := ⟨k, n, C, ns, S, dd, M, cs, hk, .fixed, h⟩
theorem mt_of0 (M : Met G k C ns mt n S []) (hk : k ≤ j) (h : Wa W E t r m fun es m2 => es.length + 1 = n ∧ S (D.ins C ns ds :: es) m2 K fun x m' => E x r m') :
    ∃ (k n : Nat) (C' : Addr) (ns' : List Str) (S : SpecD) (dd : List D), Met G k C' ns' mt n S dd ∧ dd.all isC = true ∧ k ≤ j ∧ InsD (D.ins C ns ds) m C' ns' ∧
    Wa W E t r m fun es m2 => (D.ins C ns ds :: (es ++ dd)).length = n ∧ S (D.ins C ns ds :: (es ++ dd)) m2 K fun x m' => E x r m' :=
  mt_of M rfl hk (h.imp fun es m2 k => by
    rw [List.append_nil]
    exact k)
variable {d d' : D} {ns' : List Str} {ds' : List D}
theorem w1_negO (O : Opr G k C "__neg__" 1 S) (hk : k ≤ j) (i : FldD d m C ns ds) (h : S [d] m K fun x m' => E x r m') : W1 W E (oNeg G j W) d r m K := fun s H Q v e z rv g => .inr (w1_own O hk i h s H Q v e z rv g)
theorem w2_addO (O : Opr G k C "__add__" 2 S) (hk : k ≤ j) (i : FldD d m C ns ds) (i' : FldD d' m C ns' ds') (h : S [d, d'] m K fun x m' => E x r m') : W2 W E (oAdd G j W) d d' r m K := fun s H Q a b e z ra rb g => .inr (.inr (.inr (.inr (w2_own O hk i i' h s H Q a b e z ra rb g))))
theorem w2_subO (O : Opr G k C "__sub__" 2 S) (hk : k ≤ j) (i : FldD d m C ns ds) (i' : FldD d' m C ns' ds') (h : S [d, d'] m K fun x m' => E x r m') : W2 W E (oSub G j W) d d' r m K := fun s H Q a b e z ra rb g => .inr (w2_own O hk i i' h s H Q a b e z ra rb g)
theorem w2_mulO (O : Opr G k C "__mul__" 2 S) (hk : k ≤ j) (i : FldD d m C ns ds) (i' : FldD d' m C ns' ds') (h : S [d, d'] m K fun x m' => E x r m') : W2 W E (oMul G j W) d d' r m K := fun s H Q a b e z ra rb g => .inr (.inr (w2_own O hk i i' h s H Q a b e z ra rb g))
end
end DL
set_option Elab.async false
set_option linter.all false
set_option maxRecDepth 100000
/-! DL11: tests within an except suite; what isinstance and except answer of own classes. -/
namespace DL
open PySem PySem.Spec L2
open PyProof.Rows hiding St
theorem pt_trS {X : Cx} {a : Addr} {pn : List (Addr × Obj)} {e : Expr} {te : TE} (ha : PE (X.suite a pn) e te) (he : ∀ whole, isTrue e (X.suite a pn).env whole = (do let v ← whole; standAt e.pos; holding [v] (truthy v)) := by intro _; rfl) : PT (X.suite a pn) e (tTr X.K te) := pt_tr ha he
theorem pe_isE {X : Cx} {a : Addr} {cls : Value} {d : Option Addr} {oe : Obj} {pn : List (Addr × Obj)} {e : Expr} {es : List Expr} {t : TA} {p pos : Pos} (hz : L2N.Zn cls d oe) (hf : ∃ vs, oe.data = .fields vs) (hm : X.mg "isinstance" = none) (ha : PA (X.suite a ((a, oe) :: pn)) (e :: es) t)
    (hg : Gl (X.suite a ((a, oe) :: pn)) "isinstance" := by rfl)
    (he : starEach (e :: es) X.env = (false, eval e X.env) :: starEach es X.env := by rfl) (hpl : (backTo pos (starEach es X.env)).any (·.1) = false := by rfl) : PE (X.suite a ((a, oe) :: pn)) (.Call (.Name "isinstance" p) (e :: es) [] pos) (tC2 (cIsE X.K a cls d) t) :=
  pe_cb (cs_isE hz hf) hg hm (by decide +kernel) ha (by decide) (by decide) he hpl
section
variable {K : PySem.W.Frag} {S O : Addr}
theorem kit_self : PySem.W.kitOne K (.ref S) (.ref S) = some true := by
  unfold PySem.W.kitOne
  rw [if_pos]
  simp
theorem kit_no (hx : PySem.W.subIn K (.ref S) (.ref S) = some true) (h2 : PySem.W.isClsIn K O = true) (h3 : PySem.W.typeIn K (.ref O) = some (.type "type")) (h4 : PySem.W.subIn K (.ref S) (.ref O) = some false) : PySem.W.kitOne K (.ref S) (.ref O) = some false := by
  have ne : ¬ ((Value.ref S == Value.ref O) = true) := fun z => by
    have e : S = O := by simpa using z
    subst e
    rw [hx] at h4
    cases h4
  have e2 : ((PySem.W.clsIn K O).isSome && PySem.W.typeIn K (.ref O) == some (.type "type")) = true := by
    have h2' : (PySem.W.clsIn K O).isSome = true := h2
    rw [h2', h3] <;> rfl
  unfold PySem.W.kitOne
  rw [if_neg ne]
  show (if ((PySem.W.clsIn K O).isSome && PySem.W.typeIn K (.ref O) == some (.type "type")) = true then PySem.W.subIn K (.ref S) (.ref O) else none) = some false
  rw [if_pos e2]
  exact h4
theorem kit_val (h : PySem.W.subIn K (.ref S) (.type "ValueError") = some true) : PySem.W.kitOne K (.ref S) (.type "ValueError") = some true := h
end
end DL
set_option Elab.async false
set_option linter.all false
set_option maxRecDepth 100000
/-! DL12: in, by an own __contains__. -/
namespace DL
open PySem PySem.Spec L2
open PyProof.Rows hiding St
section
variable {X : Cx} {W : WX} {E : ET} {r : Rho} {m : Mu} {K : KT} {G : Gx} {j k : Nat} {C : Addr} {ns : List Str} {ds : List D} {S : SpecD} {d d' : D}
def oInO (G : Gx) (j : Nat) (W : WX) : O2 := fun x y σ H Q => ∃ (a C dx : Addr) (fs : List (Str × V)) (k : Nat) (S : SpecD), y = .ref a ∧ H a = some (.ins C dx fs) ∧ k ≤ j ∧ Opr G k C "__contains__" 2 S ∧ spD 2 S [y, x] H (fun v H' => ∃ b, v = .bl b ∧ Q (.bl b) H') (WE W σ)
theorem os_inO (hr : Room j X.A) (tk : L2N.Takes X W) : OpS X (compareOp .In) (oInO (Gx.of X) j W) := by
  intro pins s σ H x y u v Q I rx ry h
  obtain ⟨a, C, dx, fs, k, S, rfl, ha, hk, O, q⟩ := h
  obtain rfl : v = Value.ref a := ry
  obtain ⟨f, ⟨⟨fd, ps, ds, F, bd, d⟩, cs⟩, h1, h2⟩ := O.ex
  obtain ⟨od, J⟩ := inst_of I ha
  obtain ⟨m, fr⟩ := I.fr
  refine PySem.W.in_K fr I.ok.mod.kin J h1 h2 ?_
  refine wpAny_mono (run_fnSD (E := WE W) (us := [.ref a, u]) (vs := [.ref a, x]) F (hr.mono hk) bd d (L2N.passAt tk σ) I (.cons rfl (.cons rx .nil)) q) (fun w s' hq => ?_) fun _ _ z => z
  obtain ⟨v', H1, I1, r1, b, rfl, q1⟩ := hq
  cases r1
  exact wpAny_truthy_bool ⟨.bl b, H1, I1, rfl, q1⟩
theorem w2_inO {d d' : D} (O : Opr G k C "__contains__" 2 S) (hk : k ≤ j) (i : FldD d' m C ns ds) (h : S [d', d] m (fun x m' => ∃ b, x = .bl b ∧ K (.bl b) m') fun x m' => E x r m') : W2 W E (oInO G j W) d d' r m K := fun s H Q a b e z ra rb g => by
  obtain ⟨p, dx, gs, rfl, hp, _⟩ := i.look e.mu rb
  refine ⟨p, C, dx, gs, k, S, rfl, hp, hk, O, spD_of rfl e z (fun d m' v H' s1 mu1 r1 q => ?_) (.cons rb (.cons ra .nil)) h fun _ _ q => q⟩
  obtain ⟨b, rfl, q⟩ := q
  cases r1
  exact ⟨b, rfl, g _ m' _ H' s1 mu1 (.bl b) q⟩
end
end DL
namespace DL
open PySem PySem.Spec L2
open PyProof.Rows hiding St
/-! ==, by an own __eq__ (both of the class) -/
section
variable {X : Cx} {W : WX} {E : ET} {r : Rho} {m : Mu} {K : KT} {G : Gx} {j k : Nat} {C : Addr} {ns ns' : List Str} {ds ds' : List D} {S : SpecD} {d d' : D}
structure OprEq (G : Gx) (k : Nat) (C : Addr) (S : SpecD) : Prop where
  o : Opr G k C "__eq__" 2 S
  nf : PySem.W.notFirst G.K C (.ref C) = true
def oEqO (G : Gx) (j : Nat) (W : WX) : O2 := fun x y σ H Q => ∃ (a b C dx dy : Addr) (fs gs : List (Str × V)) (k : Nat) (S : SpecD), x = .ref a ∧ y = .ref b ∧ H a = some (.ins C dx fs) ∧ H b = some (.ins C dy gs) ∧ k ≤ j ∧ OprEq G k C S ∧ spD 2 S [x, y] H Q (WE W σ)
theorem os_eqO (hr : Room j X.A) (tk : L2N.Takes X W) : OpS X (compareOp .Eq) (oEqO (Gx.of X) j W) := by
  intro pins s σ H x y u v Q I rx ry h
  obtain ⟨a, b, C, dx, dy, fs, gs, k, S, rfl, rfl, ha, hb, hk, O, q⟩ := h
  obtain rfl : u = Value.ref a := rx
  obtain rfl : v = Value.ref b := ry
  obtain ⟨f, ⟨⟨fd, ps, ds, F, bd, d⟩, cs⟩, h1, h2⟩ := O.o.ex
  obtain ⟨od, J⟩ := inst_of I ha
  obtain ⟨od', J'⟩ := inst_of I hb
  obtain ⟨m, fr⟩ := I.fr
  show wpAny (model X.prog X.w) X.A (richCompare .Eq (.ref a) (.ref b)) (EP X pins σ Q) X.xe s
  refine PySem.W.cmp_K (Nat.lt_of_succ_lt (hu_of hr)) fr I.ok.mod.kin J J'.type O.nf h1 h2 ?_
  exact wpAny_mono (run_fnSD (E := WE W) (us := [.ref a, .ref b]) (vs := [.ref a, .ref b]) F (hr.mono hk) bd d (L2N.passAt tk σ) I (.cons rfl (.cons rfl .nil)) q) (fun r s' hq => back_of hq) fun _ _ z => z
theorem w2_eqO (O : OprEq G k C S) (hk : k ≤ j) (i : FldD d m C ns ds) (i' : FldD d' m C ns' ds') (h : S [d, d'] m K fun x m' => E x r m') : W2 W E (oEqO G j W) d d' r m K := fun s H Q a b e z ra rb g => by
  obtain ⟨p, dx, gs, rfl, hp, _⟩ := i.look e.mu ra
  obtain ⟨p', dx', gs', rfl, hp', _⟩ := i'.look e.mu rb
  exact ⟨p, p', C, dx, dx', gs, gs', k, S, rfl, rfl, hp, hp', hk, O, spD_of rfl e z g (.cons ra (.cons rb .nil)) h fun _ _ q => q⟩
end
end DL
namespace DL
open PySem PySem.Spec L2
open PyProof.Rows hiding St
theorem pe_fldK {X : Cx} {KK : PySem.W.Frag} {e : Expr} {ta : TE} {f : Str} {pos : Pos} (hk : X.K = KK) (he : PE X e ta) (hb : attributeBase e f X.env (eval e X.env) = eval e X.env) : PE X (.Attribute e f pos) (tFld KK ta f) := by
  subst hk
  exact pe_fld he hb
section
variable {X : Cx} {W : WX} {mt : Str} {j : Nat} {e o : Expr} {es : List Expr} {t : TA} {to : TE} {pos apos : Pos}
theorem pe_mthG {pl : Sem Bool} (G : Gx) (hG : Gx.of X = G) (hr : Room j X.A) (tk : L2N.Takes X W) (he : PE X o to) (ha : PA X (e :: es) t)
    (hst : starEach (e :: es) X.env = (false, eval e X.env) :: starEach es X.env := by rfl) (hpl : (backTo pos (starEach es X.env)).any (·.1) = false := by rfl)
    (ht : eval (.Call (.Attribute o mt apos) (e :: es) [] pos) X.env = (do
      let ov ← eval o X.env
      standAt apos.atName
      let (f, first) ← holding [ov] (getMethod ov mt pl)
      callWith pos f first (backTo pos (starEach (e :: es) X.env)) (backToKw pos (keywordEach [] X.env))) := by rfl) :
    PE X (.Call (.Attribute o mt apos) (e :: es) [] pos) (tMt G j W mt to t) := by
  subst hG
  exact pe_mth hr tk he ha hst hpl ht
theorem pe_mth0G {pl : Sem Bool} (G : Gx) (hG : Gx.of X = G) (hr : Room j X.A) (tk : L2N.Takes X W) (he : PE X o to)
    (ht : eval (.Call (.Attribute o mt apos) [] [] pos) X.env = (do
      let ov ← eval o X.env
      standAt apos.atName
      let (f, first) ← holding [ov] (getMethod ov mt pl)
      callWith pos f first (backTo pos (starEach [] X.env)) (backToKw pos (keywordEach [] X.env))) := by rfl) :
    PE X (.Call (.Attribute o mt apos) [] [] pos) (tMt G j W mt to tNil) := by
  subst hG
  exact pe_mth0 hr tk he ht
end
end DL
set_option Elab.async false
set_option linter.all false
/-! MQ: a Ratio by its number (Lean's own Rat). -/
namespace DL
open PySem PySem.Spec L2
abbrev dv (t b : Int) : Rat := Rat.divInt t b
/-- a Ratio, by its number -/
abbrev rq (C : Addr) (x : Rat) : D := rat C x.num (x.den : Int)
structure Qb (n : Nat) (x : Rat) : Prop where
  t : Bd n x.num
  b : Bd n (x.den : Int)
theorem Qb.mono {a b : Nat} {x : Rat} (h : Qb a x) (l : a ≤ b) : Qb b x := ⟨h.1.mono l, h.2.mono l⟩
theorem den_pos (x : Rat) : 0 < (x.den : Int) := by have := x.den_nz; omega
theorem den_ne (x : Rat) : (x.den : Int) ≠ 0 := by have := x.den_nz; omega
theorem rT_dv {t b : Int} (h : b ≠ 0) : rT t b = (dv t b).num ∧ rB t b = ((dv t b).den : Int) := by
  obtain ⟨g, hg, e1, e2, hp⟩ := rat_eqs (t := t) h
  have e3 : dv t b = Rat.divInt (rT t b) (rB t b) := by
    have := Rat.divInt_mul_left (n := rT t b) (d := rB t b) hg
    rw [← e1, ← e2] at this
    exact this
  have hB : ((rB t b).toNat : Int) = rB t b := by omega
  have e4 : Rat.divInt (rT t b) (rB t b) = (⟨rT t b, (rB t b).toNat, by omega, by
      have := rat_gcd (t := t) h
      have e : (rB t b).natAbs = (rB t b).toNat := by omega
      rw [e] at this
      exact this⟩ : Rat) := by
    rw [Rat.mk_eq_divInt, hB]
  rw [e3, e4]
  exact ⟨rfl, hB.symm⟩
theorem rq_of {C : Addr} {t b : Int} (h : b ≠ 0) : rat C (rT t b) (rB t b) = rq C (dv t b) := by
  rw [(rT_dv h).1, (rT_dv h).2]
theorem qb_of {n : Nat} {t b : Int} (h : b ≠ 0) (ht : Bd n t) (hb : Bd n b) : Qb n (dv t b) := by
  have q1 := rat_bd h ht
  have q2 := rat_bdB (t := t) h hb
  rw [(rT_dv h).1] at q1
  rw [(rT_dv h).2] at q2
  exact ⟨q1, q2⟩
theorem dv_self (x : Rat) : dv x.num x.den = x := Rat.num_divInt_den x
theorem dv_pair {t b : Int} (h : 0 < b) : (dv t b).num * b = t * ((dv t b).den : Int) := by
  obtain ⟨g, hg, e1, e2, hp⟩ := rat_eqs (t := t) (b := b) (by omega)
  have r := rT_dv (t := t) (b := b) (by omega)
  rw [← r.1, ← r.2]
  generalize rT t b = P at *
  generalize rB t b = Q at *
  subst e1 e2
  ac_rfl
theorem dv_eq {a b c d : Int} (hb : b ≠ 0) (hd : d ≠ 0) : dv a b = dv c d ↔ a * d = c * b := Rat.divInt_eq_divInt_iff hb hd
theorem add_dv {a b c d : Int} (hb : b ≠ 0) (hd : d ≠ 0) : dv a b + dv c d = dv (a * d + c * b) (b * d) := Rat.divInt_add_divInt _ _ hb hd
theorem sub_dv {a b c d : Int} (hb : b ≠ 0) (hd : d ≠ 0) : dv a b - dv c d = dv (a * d - c * b) (b * d) := Rat.divInt_sub_divInt _ _ hb hd
theorem mul_dv {a b c d : Int} : dv a b * dv c d = dv (a * c) (b * d) := Rat.divInt_mul_divInt _ _
theorem neg_dv {a b : Int} : -dv a b = dv (-a) b := Rat.neg_divInt _ _
theorem dv_scale {a b k : Int} (hk : k ≠ 0) : dv (a * k) (b * k) = dv a b := Rat.divInt_mul_right hk
theorem inv_dv {a b : Int} : (dv a b)⁻¹ = dv b a := by
  by_cases hb : b = 0
  · subst hb
    rw [show dv a 0 = 0 from Rat.divInt_zero a, show dv 0 a = 0 from Rat.zero_divInt a, Rat.inv_zero]
  by_cases ha : a = 0
  · subst ha
    rw [show dv b 0 = 0 from Rat.divInt_zero b, show dv 0 b = 0 from Rat.zero_divInt b, Rat.inv_zero]
  refine Rat.inv_eq_of_mul_eq_one ?_
  rw [mul_dv, Int.mul_comm a b]
  exact Rat.divInt_self' (Int.mul_ne_zero hb ha)
theorem lt_dv {a b c d : Int} (hb : 0 < b) (hd : 0 < d) : dv a b < dv c d ↔ a * d < c * b := by
  rw [Rat.lt_iff]
  have e1 := dv_pair (t := a) hb
  have e2 := dv_pair (t := c) hd
  have p1 := den_pos (dv a b)
  have p2 := den_pos (dv c d)
  generalize (dv a b).num = A at *
  generalize ((dv a b).den : Int) = B at *
  generalize (dv c d).num = C at *
  generalize ((dv c d).den : Int) = D at *
  have k : 0 < b * d := Int.mul_pos hb hd
  have k2 : 0 < B * D := Int.mul_pos p1 p2
  have x1 : A * D * (b * d) = (a * d) * (B * D) := by
    calc A * D * (b * d) = (A * b) * (D * d) := by ac_rfl
      _ = _ := by rw [e1]; ac_rfl
  have x2 : C * B * (b * d) = (c * b) * (B * D) := by
    calc C * B * (b * d) = (C * d) * (B * b) := by ac_rfl
      _ = _ := by rw [e2]; ac_rfl
  constructor
  · intro h
    have := Int.mul_lt_mul_of_pos_right h k
    rw [x1, x2] at this
    exact Int.lt_of_mul_lt_mul_right this (Int.le_of_lt k2)
  · intro h
    have := Int.mul_lt_mul_of_pos_right h k2
    rw [← x1, ← x2] at this
    exact Int.lt_of_mul_lt_mul_right this (Int.le_of_lt k)
theorem le_dv {a b c d : Int} (hb : 0 < b) (hd : 0 < d) : dv a b ≤ dv c d ↔ a * d ≤ c * b := by
  rw [← Rat.not_lt, lt_dv hd hb]
  omega
theorem lt_q {x y : Rat} : x.num * y.den < y.num * x.den ↔ x < y := (Rat.lt_iff x y).symm
theorem num_neg_iff {x : Rat} : x.num < 0 ↔ x < 0 := by
  rw [← lt_q (x := x) (y := 0)]
  show _ ↔ x.num * ((1 : Nat) : Int) < 0 * x.den
  omega
theorem num_pos_iff {x : Rat} : 0 < x.num ↔ 0 < x := by
  rw [← lt_q (x := 0) (y := x)]
  show _ ↔ 0 * (x.den : Int) < x.num * ((1 : Nat) : Int)
  omega
theorem dv_pos {t b : Int} (hb : 0 < b) : 0 < dv t b ↔ 0 < t := by
  have := lt_dv (a := 0) (b := 1) (c := t) (d := b) (by decide) hb
  rw [show dv 0 1 = 0 from rfl] at this
  rw [this]; omega
theorem dv_neg {t b : Int} (hb : 0 < b) : dv t b < 0 ↔ t < 0 := by
  have := lt_dv (a := t) (b := b) (c := 0) (d := 1) hb (by decide)
  rw [show dv 0 1 = 0 from rfl] at this
  rw [this]; omega
theorem dv_nonneg {t b : Int} (hb : 0 < b) : 0 ≤ dv t b ↔ 0 ≤ t := by
  rw [← Rat.not_lt, dv_neg hb]; omega
theorem dv_nonpos {t b : Int} (hb : 0 < b) : dv t b ≤ 0 ↔ t ≤ 0 := by
  rw [← Rat.not_lt, dv_pos hb]; omega
theorem dv_zero {t b : Int} (hb : b ≠ 0) : dv t b = 0 ↔ t = 0 := by
  have := dv_eq (a := t) (b := b) (c := 0) (d := 1) hb (by decide)
  rw [show dv 0 1 = 0 from rfl] at this
  rw [this]; omega
/-! ### the program's own formulas -/
theorem q_add {x y : Rat} : dv (x.num * y.den + y.num * x.den) (x.den * y.den) = x + y := by
  have := add_dv (a := x.num) (c := y.num) (den_ne x) (den_ne y)
  rw [dv_self, dv_self] at this
  exact this.symm
theorem q_sub {x y : Rat} : dv (x.num * y.den - y.num * x.den) (x.den * y.den) = x - y := by
  have := sub_dv (a := x.num) (c := y.num) (den_ne x) (den_ne y)
  rw [dv_self, dv_self] at this
  exact this.symm
theorem q_mul {x y : Rat} : dv (x.num * y.num) (x.den * y.den) = x * y := by
  have := mul_dv (a := x.num) (b := x.den) (c := y.num) (d := y.den)
  rw [dv_self, dv_self] at this
  exact this.symm
theorem q_neg {x : Rat} : dv (-x.num) x.den = -x := by
  have := neg_dv (a := x.num) (b := x.den)
  rw [dv_self] at this
  exact this.symm
theorem q_div {x y : Rat} : dv (x.num * y.den) (x.den * y.num) = x / y := by
  have := mul_dv (a := x.num) (b := x.den) (c := y.den) (d := y.num)
  rw [← inv_dv (a := y.num), dv_self, dv_self] at this
  exact this.symm
theorem num_ne {x : Rat} (h : x ≠ 0) : x.num ≠ 0 := fun z => h (Rat.num_eq_zero.mp z)
theorem qb_add {a b : Nat} {x y : Rat} (h : Qb a x) (k : Qb b y) : Qb (a + b + 1) (x + y) := by
  rw [← q_add]
  exact qb_of (Int.mul_ne_zero (den_ne x) (den_ne y)) (((h.1.mul k.2)).add ((k.1.mul h.2).mono (Nat.le_of_eq (Nat.add_comm _ _)))) ((h.2.mul k.2).mono (by omega))
theorem qb_sub {a b : Nat} {x y : Rat} (h : Qb a x) (k : Qb b y) : Qb (a + b + 1) (x - y) := by
  rw [← q_sub]
  exact qb_of (Int.mul_ne_zero (den_ne x) (den_ne y)) (((h.1.mul k.2)).sub ((k.1.mul h.2).mono (Nat.le_of_eq (Nat.add_comm _ _)))) ((h.2.mul k.2).mono (by omega))
theorem qb_mul {a b : Nat} {x y : Rat} (h : Qb a x) (k : Qb b y) : Qb (a + b) (x * y) := by
  rw [← q_mul]
  exact qb_of (Int.mul_ne_zero (den_ne x) (den_ne y)) (h.1.mul k.1) (h.2.mul k.2)
theorem qb_div {a b : Nat} {x y : Rat} (h : Qb a x) (k : Qb b y) (n : y ≠ 0) : Qb (a + b) (x / y) := by
  rw [← q_div]
  exact qb_of (Int.mul_ne_zero (den_ne x) (num_ne n)) (h.1.mul k.2) (h.2.mul k.1)
theorem q_inv {x : Rat} : 1 / x = dv x.den x.num := by
  have := inv_dv (a := x.num) (b := x.den)
  rw [dv_self] at this
  rw [← this, Rat.div_def, Rat.one_mul]
theorem qb_inv {a : Nat} {x : Rat} (h : Qb a x) (n : x ≠ 0) : Qb a (1 / x) := by
  rw [q_inv]
  exact qb_of (num_ne n) h.2 h.1
theorem qb_neg {a : Nat} {x : Rat} (h : Qb a x) : Qb a (-x) := by
  rw [← q_neg]
  exact qb_of (den_ne x) h.1.neg h.2
theorem qb_one {n : Nat} : Qb (n + 1) 1 := by
  have : Bd (n + 1) 1 := (bd_lit (n := 1) (by decide)).mono (by omega)
  exact ⟨this, this⟩
/-! ### compare, least, greatest -/
def cq (x y : Rat) : Int := if x < y then -1 else if y < x then 1 else 0
def qmin (x y : Rat) : Rat := if y < x then y else x
def qmax (x y : Rat) : Rat := if x < y then y else x
theorem cq_pos {x y : Rat} : 0 < cq x y ↔ y < x := by
  unfold cq
  split
  · constructor <;> intro h
    · omega
    · exact absurd (Rat.le_of_lt h) (Rat.not_le.mpr ‹_›)
  · split
    · simp_all
    · simp_all
theorem cq_neg {x y : Rat} : cq x y < 0 ↔ x < y := by
  unfold cq
  split
  · simp_all
  · split
    · simp_all
    · simp_all
theorem cq_le {x y : Rat} : cq x y ≤ 0 ↔ x ≤ y := by
  rw [← Int.not_lt, cq_pos, Rat.not_lt]
theorem cq_ge {x y : Rat} : 0 ≤ cq x y ↔ y ≤ x := by
  rw [← Int.not_lt, cq_neg, Rat.not_lt]
theorem qmin_qb {a : Nat} {x y : Rat} (h : Qb a x) (k : Qb a y) : Qb a (qmin x y) := by
  unfold qmin
  split <;> assumption
theorem qmax_qb {a : Nat} {x y : Rat} (h : Qb a x) (k : Qb a y) : Qb a (qmax x y) := by
  unfold qmax
  split <;> assumption
end DL
set_option Elab.async false
set_option linter.all false
set_option maxRecDepth 100000
/-! DQ: Ratio and Span by numbers: what their methods promise. -/
namespace DL
open PySem PySem.Spec L2
open PyProof.Rows hiding St
/-! ### Ratio -/
def S_init (C : Addr) : SpecD := fun ds m K _ => ∃ x m0 t b, ds = [.ref x, .int t, .int b] ∧ m = (x, .ins C [] []) :: m0 ∧ b ≠ 0 ∧ Bd 8000 b ∧ K .non ((x, .ins C ["top", "bottom"] [.int (rT t b), .int (rB t b)]) :: m0)
structure RatQ (b : Int) (K : Prop) : Prop where
  nz : b ≠ 0
  bd : Bd 8000 b
  k : K
section
variable {W : WX} {E : ET} {ta : TA} {r : Rho} {m : Mu} {K : KT} {C S : Addr}
theorem we_ratQ (h : Wa W E ta r m fun ds m1 => ∃ p q, ds = [.int p, .int q] ∧ RatQ q (K (rq C (dv p q)) m1)) : We W E (tMk C 3 (S_init C) [] W ta) r m K :=
  we_mk0 (h.imp fun ds m1 ⟨p, q, e, h0, hb, k⟩ => by
    subst e
    exact ⟨rfl, fun x _ => ⟨x, m1, p, q, rfl, rfl, h0, hb, _, _, rfl, rfl, by rw [(rT_dv h0).1, (rT_dv h0).2]; exact k⟩⟩)
theorem we_ratQ1 (h : Wa W E ta r m fun ds m1 => ∃ p, ds = [.int p] ∧ K (rq C (p : Rat)) m1) : We W E (tMk C 3 (S_init C) [.int 1] W ta) r m K :=
  we_mk1 rfl (h.imp fun ds m1 ⟨p, e, k⟩ => by
    subst e
    have e1 : rT p 1 = p := (rat_low (by decide) (Nat.gcd_one_right _)).1
    have e2 : rB p 1 = 1 := (rat_low (t := p) (by decide) (Nat.gcd_one_right _)).2
    exact ⟨rfl, fun x _ => ⟨x, m1, p, 1, rfl, rfl, by decide, bd_lit (by decide), _, _, rfl, rfl, by rw [e1, e2]; exact k⟩⟩)
def S_q2 (C : Addr) (f : Rat → Rat → Rat) : SpecD := fun ds m K _ => ∃ x y, ds = [rq C x, rq C y] ∧ Qb 3900 x ∧ Qb 3900 y ∧ K (rq C (f x y)) m
def S_qadd (C : Addr) : SpecD := S_q2 C (fun x y => x + y)
def S_qsub (C : Addr) : SpecD := S_q2 C (fun x y => x - y)
def S_qmul (C : Addr) : SpecD := S_q2 C (fun x y => x * y)
def S_qleast (C : Addr) : SpecD := S_q2 C qmin
def S_qgreat (C : Addr) : SpecD := S_q2 C qmax
def S_qdiv (C : Addr) : SpecD := fun ds m K _ => ∃ x y, ds = [rq C x, rq C y] ∧ Qb 3900 x ∧ Qb 3900 y ∧ y ≠ 0 ∧ K (rq C (x / y)) m
def S_qneg (C : Addr) : SpecD := fun ds m K _ => ∃ x, ds = [rq C x] ∧ Qb 3900 x ∧ K (rq C (-x)) m
def S_qcmp (C : Addr) : SpecD := fun ds m K _ => ∃ x y, ds = [rq C x, rq C y] ∧ Qb 3900 x ∧ Qb 3900 y ∧ K (.int (cq x y)) m
def S_qsign (C : Addr) : SpecD := fun ds m K _ => ∃ x, ds = [rq C x] ∧ K (.int (cq x 0)) m
variable {F : Ex → Mu → Prop} {x y x0 x1 y0 y1 : Rat}
theorem use_qadd (h : Qb 3900 x) (k : Qb 3900 y) (q : K (rq C (x + y)) m) : S_qadd C [rq C x, rq C y] m K F := ⟨x, y, rfl, h, k, q⟩
theorem use_qsub (h : Qb 3900 x) (k : Qb 3900 y) (q : K (rq C (x - y)) m) : S_qsub C [rq C x, rq C y] m K F := ⟨x, y, rfl, h, k, q⟩
theorem use_qmul (h : Qb 3900 x) (k : Qb 3900 y) (q : K (rq C (x * y)) m) : S_qmul C [rq C x, rq C y] m K F := ⟨x, y, rfl, h, k, q⟩
theorem use_qleast (h : Qb 3900 x) (k : Qb 3900 y) (q : K (rq C (qmin x y)) m) : S_qleast C [rq C x, rq C y] m K F := ⟨x, y, rfl, h, k, q⟩
theorem use_qgreat (h : Qb 3900 x) (k : Qb 3900 y) (q : K (rq C (qmax x y)) m) : S_qgreat C [rq C x, rq C y] m K F := ⟨x, y, rfl, h, k, q⟩
theorem use_qdiv (h : Qb 3900 x) (k : Qb 3900 y) (n : y ≠ 0) (q : K (rq C (x / y)) m) : S_qdiv C [rq C x, rq C y] m K F := ⟨x, y, rfl, h, k, n, q⟩
theorem use_qneg (h : Qb 3900 x) (q : K (rq C (-x)) m) : S_qneg C [rq C x] m K F := ⟨x, rfl, h, q⟩
theorem use_qcmp (h : Qb 3900 x) (k : Qb 3900 y) (q : K (.int (cq x y)) m) : S_qcmp C [rq C x, rq C y] m K F := ⟨x, y, rfl, h, k, q⟩
theorem use_qsign (q : K (.int (cq x 0)) m) : S_qsign C [rq C x] m K F := ⟨x, rfl, q⟩
/-! ### Span -/
abbrev spn (S C : Addr) (x y : Rat) : D := .ins S ["low", "high"] [rq C x, rq C y]
theorem fix_lo {a b : D} : fix "low" ["low", "high"] [a, b] = some a := by simp [fix]
theorem nhl : ¬ (("high" : Str) = "low") := by decide +kernel
theorem fix_hi {a b : D} : fix "high" ["low", "high"] [a, b] = some b := by simp [fix, nhl]
structure SpnC (K : PySem.W.Frag) (C : Addr) : Prop where
  ins : InsK K C
  al : NoAttr K C "low"
  ah : NoAttr K C "high"
section
variable {K : PySem.W.Frag} {KK : D → Prop} {C : Addr} {a b : D}
theorem fld_low (R : SpnC K C) (h : KK a) : ∃ C' ns ds x, D.ins C ["low", "high"] [a, b] = .ins C' ns ds ∧ Cls K C' ∧ NoAttr K C' "low" ∧ fix "low" ns ds = some x ∧ KK x := ⟨_, _, _, _, rfl, R.ins.cl, R.al, fix_lo, h⟩
theorem fld_high (R : SpnC K C) (h : KK b) : ∃ C' ns ds x, D.ins C ["low", "high"] [a, b] = .ins C' ns ds ∧ Cls K C' ∧ NoAttr K C' "high" ∧ fix "high" ns ds = some x ∧ KK x := ⟨_, _, _, _, rfl, R.ins.cl, R.ah, fix_hi, h⟩
variable {m0 : Mu} {x : Addr} {d e : D} {N : Mu → Prop}
theorem cont_lh : (["low"] : List Str).contains "high" = false := by decide +kernel
theorem setN_low (R : SpnC K C) (h : N ((x, .ins C ["low"] [d]) :: m0)) : ∃ p C' ns ds m3, D.ref x = .ref p ∧ At ((x, MO.ins C [] []) :: m0) p (.ins C' ns ds) ∧ Cls K C' ∧ NoAttr K C' "low" ∧ ns.contains "low" = false ∧ Nat.ble ns.length 900 = true ∧ Put ((x, MO.ins C [] []) :: m0) p (.ins C' (ns ++ [("low" : Str)]) (ds ++ [d])) m3 ∧ N m3 :=
  ⟨_, _, _, _, _, rfl, .head, R.ins.cl, R.al, rfl, rfl, .head, h⟩
theorem setN_high (R : SpnC K C) (h : N ((x, .ins C ["low", "high"] [d, e]) :: m0)) : ∃ p C' ns ds m3, D.ref x = .ref p ∧ At ((x, MO.ins C ["low"] [d]) :: m0) p (.ins C' ns ds) ∧ Cls K C' ∧ NoAttr K C' "high" ∧ ns.contains "high" = false ∧ Nat.ble ns.length 900 = true ∧ Put ((x, MO.ins C ["low"] [d]) :: m0) p (.ins C' (ns ++ [("high" : Str)]) (ds ++ [e])) m3 ∧ N m3 :=
  ⟨_, _, _, _, _, rfl, .head, R.ins.cl, R.ah, cont_lh, rfl, .head, h⟩
end
def S_sinit (S C : Addr) : SpecD := fun ds m K _ => ∃ x m0 a b, ds = [.ref x, rq C a, rq C b] ∧ m = (x, .ins S [] []) :: m0 ∧ a ≤ b ∧ Qb 3900 a ∧ Qb 3900 b ∧ K .non ((x, .ins S ["low", "high"] [rq C a, rq C b]) :: m0)
structure SpnA (x y : Rat) (K : Prop) : Prop where
  le : x ≤ y
  qx : Qb 3900 x
  qy : Qb 3900 y
  k : K
theorem we_spn (h : Wa W E ta r m fun ds m1 => ∃ x y, ds = [rq C x, rq C y] ∧ SpnA x y (K (spn S C x y) m1)) : We W E (tMk S 3 (S_sinit S C) [] W ta) r m K :=
  we_mk0 (h.imp fun ds m1 ⟨p, q, e, le, qx, qy, k⟩ => by
    subst e
    exact ⟨rfl, fun x _ => ⟨x, m1, p, q, rfl, rfl, le, qx, qy, _, _, rfl, rfl, k⟩⟩)
/-- two spans, of a size -/
structure Two (x0 x1 y0 y1 : Rat) : Prop where
  lx : x0 ≤ x1
  ly : y0 ≤ y1
  a0 : Qb 900 x0
  a1 : Qb 900 x1
  b0 : Qb 900 y0
  b1 : Qb 900 y1
abbrev F4 := Rat → Rat → Rat → Rat → Rat
def S_s2 (S C : Addr) (f g : F4) : SpecD := fun ds m K _ => ∃ x0 x1 y0 y1, ds = [spn S C x0 x1, spn S C y0 y1] ∧ Two x0 x1 y0 y1 ∧ K (spn S C (f x0 x1 y0 y1) (g x0 x1 y0 y1)) m
def q4min (a b c d : Rat) : Rat := qmin (qmin a b) (qmin c d)
def q4max (a b c d : Rat) : Rat := qmax (qmax a b) (qmax c d)
def addL : F4 := fun x0 _ y0 _ => x0 + y0
def addH : F4 := fun _ x1 _ y1 => x1 + y1
def subL : F4 := fun x0 _ _ y1 => x0 - y1
def subH : F4 := fun _ x1 y0 _ => x1 - y0
def mulL : F4 := fun x0 x1 y0 y1 => q4min (x0 * y0) (x0 * y1) (x1 * y0) (x1 * y1)
def mulH : F4 := fun x0 x1 y0 y1 => q4max (x0 * y0) (x0 * y1) (x1 * y0) (x1 * y1)
def leL : F4 := fun x0 _ y0 _ => qmin x0 y0
def leH : F4 := fun _ x1 _ y1 => qmin x1 y1
def grL : F4 := fun x0 _ y0 _ => qmax x0 y0
def grH : F4 := fun _ x1 _ y1 => qmax x1 y1
def divL : F4 := fun x0 x1 y0 y1 => mulL x0 x1 (1 / y1) (1 / y0)
def divH : F4 := fun x0 x1 y0 y1 => mulH x0 x1 (1 / y1) (1 / y0)
theorem use_s2 {f g : F4} (h : Two x0 x1 y0 y1) (k : K (spn S C (f x0 x1 y0 y1) (g x0 x1 y0 y1)) m) : S_s2 S C f g [spn S C x0 x1, spn S C y0 y1] m K F := ⟨_, _, _, _, rfl, h, k⟩
def S_sneg (S C : Addr) : SpecD := fun ds m K _ => ∃ x0 x1, ds = [spn S C x0 x1] ∧ x0 ≤ x1 ∧ Qb 900 x0 ∧ Qb 900 x1 ∧ K (spn S C (-x1) (-x0)) m
theorem use_sneg (h : x0 ≤ x1) (a : Qb 900 x0) (b : Qb 900 x1) (k : K (spn S C (-x1) (-x0)) m) : S_sneg S C [spn S C x0 x1] m K F := ⟨_, _, rfl, h, a, b, k⟩
def S_scont (S C : Addr) : SpecD := fun ds m K _ => ∃ x0 x1 x, ds = [spn S C x0 x1, rq C x] ∧ Qb 3900 x0 ∧ Qb 3900 x1 ∧ Qb 3900 x ∧ K (.bl (decide (x0 ≤ x ∧ x ≤ x1))) m
theorem use_scont (a : Qb 3900 x0) (b : Qb 3900 x1) (c : Qb 3900 x) (k : K (.bl (decide (x0 ≤ x ∧ x ≤ x1))) m) : S_scont S C [spn S C x0 x1, rq C x] m K F := ⟨_, _, _, rfl, a, b, c, k⟩
/-- the quotient, or ZeroBottom (class Z) -/
def S_sdiv (S C Z : Addr) : SpecD := fun ds m K E => ∃ x0 x1 y0 y1, ds = [spn S C x0 x1, spn S C y0 y1] ∧ Two x0 x1 y0 y1 ∧ ((y0 ≤ 0 ∧ 0 ≤ y1 ∧ E ⟨Z, [], []⟩ m) ∨ ((0 < y0 ∨ y1 < 0) ∧ K (spn S C (divL x0 x1 y0 y1) (divH x0 x1 y0 y1)) m))
theorem use_sdiv {Z : Addr} (h : Two x0 x1 y0 y1) (n : 0 < y0 ∨ y1 < 0) (k : K (spn S C (divL x0 x1 y0 y1) (divH x0 x1 y0 y1)) m) : S_sdiv S C Z [spn S C x0 x1, spn S C y0 y1] m K F := ⟨_, _, _, _, rfl, h, .inr ⟨n, k⟩⟩
/-! what is between -/
theorem q4_le {a b c d : Rat} : q4min a b c d ≤ q4max a b c d := by
  unfold q4min q4max qmin qmax
  grind
theorem q4min_qb {n : Nat} {a b c d : Rat} (ha : Qb n a) (hb : Qb n b) (hc : Qb n c) (hd : Qb n d) : Qb n (q4min a b c d) := qmin_qb (qmin_qb ha hb) (qmin_qb hc hd)
theorem q4max_qb {n : Nat} {a b c d : Rat} (ha : Qb n a) (hb : Qb n b) (hc : Qb n c) (hd : Qb n d) : Qb n (q4max a b c d) := qmax_qb (qmax_qb ha hb) (qmax_qb hc hd)
theorem qmin_le {a b c d : Rat} (h : a ≤ c) (k : b ≤ d) : qmin a b ≤ qmin c d := by
  unfold qmin
  grind
theorem qmax_le {a b c d : Rat} (h : a ≤ c) (k : b ≤ d) : qmax a b ≤ qmax c d := by
  unfold qmax
  grind
theorem inv_anti {a b : Rat} (h : a ≤ b) (n : 0 < a ∨ b < 0) : 1 / b ≤ 1 / a := by
  have na : a ≠ 0 := by grind
  have nb : b ≠ 0 := by grind
  have ea := Rat.div_mul_cancel (a := 1) na
  have eb := Rat.div_mul_cancel (a := 1) nb
  generalize 1 / a = u at *
  generalize 1 / b = v at *
  have e : (u - v) * (a * b) = b - a := by grind
  have p : 0 < a * b := by
    rcases n with n | n
    · exact Rat.mul_pos n (by grind)
    · have := Rat.mul_pos (a := -a) (b := -b) (by grind) (by grind)
      grind
  have q : 0 * (a * b) ≤ (u - v) * (a * b) := by rw [e]; grind
  have := Rat.le_of_mul_le_mul_right q p
  grind
end
end DL
set_option Elab.async false
set_option linter.all false
/-! M05: spans of numbers: the ends of sums, differences, products, quotients. -/
namespace K05
open PySem PySem.Spec L2 DL
def opq (op : Int) (x y : Rat) : Rat := if op = 0 then x + y else if op = 1 then x - y else if op = 2 then x * y else if op = 3 then qmin x y else if op = 4 then qmax x y else x / y
def fmin (a : Rat) (l : List Rat) : Rat := l.foldl (fun a c => if c < a then c else a) a
def fmax (a : Rat) (l : List Rat) : Rat := l.foldl (fun a c => if a < c then c else a) a
def low4 (op : Int) : F4 := fun x0 x1 y0 y1 => fmin (opq op x0 y0) [opq op x0 y0, opq op x0 y1, opq op x1 y0, opq op x1 y1]
def high4 (op : Int) : F4 := fun x0 x1 y0 y1 => fmax (opq op x0 y0) [opq op x0 y0, opq op x0 y1, opq op x1 y0, opq op x1 y1]
theorem mul_in {a b c d x y : Rat} (h : a ≤ x) (k : x ≤ b) (u : c ≤ y) (v : y ≤ d) : (a * c ≤ x * y ∨ a * d ≤ x * y ∨ b * c ≤ x * y ∨ b * d ≤ x * y) ∧ (x * y ≤ a * c ∨ x * y ≤ a * d ∨ x * y ≤ b * c ∨ x * y ≤ b * d) := by
  have h1 : 0 ≤ (x - a) := by grind
  have h2 : 0 ≤ (b - x) := by grind
  have h3 : 0 ≤ (y - c) := by grind
  have h4 : 0 ≤ (d - y) := by grind
  constructor
  · rcases Rat.le_total (a := 0) (b := y) with hy | hy
    · have e1 := Rat.mul_nonneg h1 hy
      rcases Rat.le_total (a := 0) (b := a) with hb | hb
      · have e2 := Rat.mul_nonneg h3 hb
        grind
      · have e2 := Rat.mul_nonneg h4 (show 0 ≤ -a by grind)
        grind
    · have e1 := Rat.mul_nonneg h2 (show 0 ≤ -y by grind)
      rcases Rat.le_total (a := 0) (b := b) with hb | hb
      · have e2 := Rat.mul_nonneg h3 hb
        grind
      · have e2 := Rat.mul_nonneg h4 (show 0 ≤ -b by grind)
        grind
  · rcases Rat.le_total (a := 0) (b := y) with hy | hy
    · have e1 := Rat.mul_nonneg h2 hy
      rcases Rat.le_total (a := 0) (b := b) with hb | hb
      · have e2 := Rat.mul_nonneg h4 hb
        grind
      · have e2 := Rat.mul_nonneg h3 (show 0 ≤ -b by grind)
        grind
    · have e1 := Rat.mul_nonneg h1 (show 0 ≤ -y by grind)
      rcases Rat.le_total (a := 0) (b := a) with hb | hb
      · have e2 := Rat.mul_nonneg h4 hb
        grind
      · have e2 := Rat.mul_nonneg h3 (show 0 ≤ -a by grind)
        grind
theorem fmin4 {a b c d : Rat} : fmin a [a, b, c, d] = q4min a b c d := by
  unfold fmin q4min qmin
  simp only [List.foldl]
  grind
theorem fmax4 {a b c d : Rat} : fmax a [a, b, c, d] = q4max a b c d := by
  unfold fmax q4max qmax
  simp only [List.foldl]
  grind
theorem q4_perm {a b c d : Rat} : q4min a b c d = q4min b a d c ∧ q4max a b c d = q4max b a d c := by
  unfold q4min q4max qmin qmax
  grind
theorem q4_in {a b c d z : Rat} (h : a ≤ z ∨ b ≤ z ∨ c ≤ z ∨ d ≤ z) (k : z ≤ a ∨ z ≤ b ∨ z ≤ c ∨ z ≤ d) : q4min a b c d ≤ z ∧ z ≤ q4max a b c d := by
  unfold q4min q4max qmin qmax
  grind
structure Btw (x0 x1 y0 y1 x y : Rat) : Prop where
  h1 : x0 ≤ x
  h2 : x ≤ x1
  h3 : y0 ≤ y
  h4 : y ≤ y1
section
variable {x0 x1 y0 y1 x y : Rat}
theorem fit0 (h : Btw x0 x1 y0 y1 x y) : addL x0 x1 y0 y1 = low4 0 x0 x1 y0 y1 ∧ addH x0 x1 y0 y1 = high4 0 x0 x1 y0 y1 ∧ low4 0 x0 x1 y0 y1 ≤ opq 0 x y ∧ opq 0 x y ≤ high4 0 x0 x1 y0 y1 := by
  obtain ⟨h1, h2, h3, h4⟩ := h
  unfold low4 high4 addL addH
  rw [fmin4, fmax4]
  simp only [opq, if_true]
  unfold q4min q4max qmin qmax
  grind
theorem fit1 (h : Btw x0 x1 y0 y1 x y) : subL x0 x1 y0 y1 = low4 1 x0 x1 y0 y1 ∧ subH x0 x1 y0 y1 = high4 1 x0 x1 y0 y1 ∧ low4 1 x0 x1 y0 y1 ≤ opq 1 x y ∧ opq 1 x y ≤ high4 1 x0 x1 y0 y1 := by
  obtain ⟨h1, h2, h3, h4⟩ := h
  unfold low4 high4 subL subH
  rw [fmin4, fmax4]
  simp only [opq]
  unfold q4min q4max qmin qmax
  grind
theorem fit2 (h : Btw x0 x1 y0 y1 x y) : mulL x0 x1 y0 y1 = low4 2 x0 x1 y0 y1 ∧ mulH x0 x1 y0 y1 = high4 2 x0 x1 y0 y1 ∧ low4 2 x0 x1 y0 y1 ≤ opq 2 x y ∧ opq 2 x y ≤ high4 2 x0 x1 y0 y1 := by
  obtain ⟨h1, h2, h3, h4⟩ := h
  have m := mul_in h1 h2 h3 h4
  unfold low4 high4 mulL mulH
  rw [fmin4, fmax4]
  exact ⟨rfl, rfl, q4_in m.1 m.2⟩
theorem fit3 (h : Btw x0 x1 y0 y1 x y) : leL x0 x1 y0 y1 = low4 3 x0 x1 y0 y1 ∧ leH x0 x1 y0 y1 = high4 3 x0 x1 y0 y1 ∧ low4 3 x0 x1 y0 y1 ≤ opq 3 x y ∧ opq 3 x y ≤ high4 3 x0 x1 y0 y1 := by
  obtain ⟨h1, h2, h3, h4⟩ := h
  unfold low4 high4 leL leH
  rw [fmin4, fmax4]
  simp only [opq]
  unfold q4min q4max qmin qmax
  grind
theorem fit4 (h : Btw x0 x1 y0 y1 x y) : grL x0 x1 y0 y1 = low4 4 x0 x1 y0 y1 ∧ grH x0 x1 y0 y1 = high4 4 x0 x1 y0 y1 ∧ low4 4 x0 x1 y0 y1 ≤ opq 4 x y ∧ opq 4 x y ≤ high4 4 x0 x1 y0 y1 := by
  obtain ⟨h1, h2, h3, h4⟩ := h
  unfold low4 high4 grL grH
  rw [fmin4, fmax4]
  simp only [opq]
  unfold q4min q4max qmin qmax
  grind
theorem div_one {x y : Rat} : x / y = x * (1 / y) := by
  rw [Rat.div_def, Rat.div_def 1, Rat.one_mul]
theorem fit5 (h : Btw x0 x1 y0 y1 x y) (n : 0 < y0 ∨ y1 < 0) : divL x0 x1 y0 y1 = low4 5 x0 x1 y0 y1 ∧ divH x0 x1 y0 y1 = high4 5 x0 x1 y0 y1 ∧ low4 5 x0 x1 y0 y1 ≤ opq 5 x y ∧ opq 5 x y ≤ high4 5 x0 x1 y0 y1 := by
  obtain ⟨h1, h2, h3, h4⟩ := h
  have i1 := inv_anti h3 (by grind)
  have i2 := inv_anti h4 (by grind)
  have m := mul_in h1 h2 i2 i1
  have p := q4_perm (a := x0 * (1 / y1)) (b := x0 * (1 / y0)) (c := x1 * (1 / y1)) (d := x1 * (1 / y0))
  have e : ∀ u v : Rat, opq 5 u v = u * (1 / v) := fun u v => div_one
  unfold low4 high4 divL divH mulL mulH
  rw [fmin4, fmax4]
  simp only [e]
  rw [← p.1, ← p.2]
  exact ⟨rfl, rfl, q4_in m.1 m.2⟩
end
/-- what the law's own way says -/
def ownT (op a b c d : Int) : Int := if op = 0 then a * d + c * b else if op = 1 then a * d + -c * b else if op = 2 then a * c else if op = 3 then (if dv c d < dv a b then c else a) else if op = 4 then (if dv a b < dv c d then c else a) else if c < 0 then -a * d else a * d
def ownB (op a b c d : Int) : Int := if op = 0 then b * d else if op = 1 then b * d else if op = 2 then b * d else if op = 3 then (if dv c d < dv a b then d else b) else if op = 4 then (if dv a b < dv c d then d else b) else if c < 0 then -b * c else b * c
theorem own_val {op a b c d : Int} (hb : 0 < b) (hd : 0 < d) (h0 : 0 ≤ op) (h5 : op ≤ 5) (n : op = 5 → c ≠ 0) : dv (ownT op a b c d) (ownB op a b c d) = opq op (dv a b) (dv c d) := by
  have e : op = 0 ∨ op = 1 ∨ op = 2 ∨ op = 3 ∨ op = 4 ∨ op = 5 := by omega
  rcases e with rfl | rfl | rfl | rfl | rfl | rfl
  · exact (add_dv (by omega) (by omega)).symm
  · show dv (a * d + -c * b) (b * d) = dv a b - dv c d
    rw [sub_dv (by omega) (by omega), Int.neg_mul]
    rfl
  · exact mul_dv.symm
  · show dv (if dv c d < dv a b then c else a) (if dv c d < dv a b then d else b) = qmin (dv a b) (dv c d)
    unfold qmin
    split <;> rfl
  · show dv (if dv a b < dv c d then c else a) (if dv a b < dv c d then d else b) = qmax (dv a b) (dv c d)
    unfold qmax
    split <;> rfl
  · show dv (if c < 0 then -a * d else a * d) (if c < 0 then -b * c else b * c) = dv a b / dv c d
    rw [Rat.div_def, inv_dv, mul_dv]
    split
    · rw [Int.neg_mul, Int.neg_mul]
      exact Rat.neg_divInt_neg _ _
    · rfl
end K05
set_option Elab.async false
set_option linter.all false
set_option maxRecDepth 100000
set_option maxHeartbeats 4000000
namespace K05
open PySem PySem.Spec L2 DL
open PyProof.Rows hiding St
def top (i : Nat) : Stmt := PySem.Challenge.pw_fewcarry_k05_span_arithmetic.main.body.getD i (.Pass ⟨0, 0, 0, 0⟩)
abbrev s_Ratio___init__ : Stmt := inClass (top 16) 0
abbrev s_Ratio___add__ : Stmt := inClass (top 16) 4
abbrev s_Ratio___sub__ : Stmt := inClass (top 16) 5
abbrev s_Ratio___mul__ : Stmt := inClass (top 16) 6
abbrev s_Ratio___neg__ : Stmt := inClass (top 16) 7
abbrev s_Ratio_divided : Stmt := inClass (top 16) 11
abbrev s_Ratio_compare : Stmt := inClass (top 16) 12
abbrev s_Ratio_sign : Stmt := inClass (top 16) 13
abbrev s_lesser : Stmt := top 17
abbrev s_greater : Stmt := top 18
abbrev s_Span___init__ : Stmt := inClass (top 20) 0
abbrev s_Span___contains__ : Stmt := inClass (top 20) 3
abbrev s_Span___add__ : Stmt := inClass (top 20) 4
abbrev s_Span___sub__ : Stmt := inClass (top 20) 5
abbrev s_Span___mul__ : Stmt := inClass (top 20) 6
abbrev s_Span___neg__ : Stmt := inClass (top 20) 7
abbrev s_Span_divided : Stmt := inClass (top 20) 9
abbrev s_Span_least : Stmt := inClass (top 20) 10
abbrev s_Span_greatest : Stmt := inClass (top 20) 11
abbrev s__law_start : Stmt := top 22
abbrev s__law_digit : Stmt := top 23
abbrev s__law_fraction : Stmt := top 24
abbrev s__law_less : Stmt := top 25
abbrev s__law_plus : Stmt := top 26
abbrev s__law_ends : Stmt := top 27
abbrev s__law_between : Stmt := top 28
abbrev s__law_own : Stmt := top 29
abbrev s__law_asked : Stmt := top 30
abbrev s__law_equals : Stmt := top 31
abbrev s__law_is_span : Stmt := top 32
abbrev s__law_fits : Stmt := top 33
abbrev s__law_no_quotient : Stmt := top 34
abbrev s__law_all : Stmt := top 35
abbrev s_law : Stmt := top 36

theorem nd_self : (("self" : Str) == ("__debug__" : Str)) = false ∧ (("self" : Str) == ("__classdict__" : Str)) = false := ⟨by decide +kernel, by decide +kernel⟩
theorem nd_top : (("top" : Str) == ("__debug__" : Str)) = false ∧ (("top" : Str) == ("__classdict__" : Str)) = false := ⟨by decide +kernel, by decide +kernel⟩
theorem nd_bottom : (("bottom" : Str) == ("__debug__" : Str)) = false ∧ (("bottom" : Str) == ("__classdict__" : Str)) = false := ⟨by decide +kernel, by decide +kernel⟩
theorem nd_shared : (("shared" : Str) == ("__debug__" : Str)) = false ∧ (("shared" : Str) == ("__classdict__" : Str)) = false := ⟨by decide +kernel, by decide +kernel⟩
theorem nd_other : (("other" : Str) == ("__debug__" : Str)) = false ∧ (("other" : Str) == ("__classdict__" : Str)) = false := ⟨by decide +kernel, by decide +kernel⟩
theorem nd_left : (("left" : Str) == ("__debug__" : Str)) = false ∧ (("left" : Str) == ("__classdict__" : Str)) = false := ⟨by decide +kernel, by decide +kernel⟩
theorem nd_right : (("right" : Str) == ("__debug__" : Str)) = false ∧ (("right" : Str) == ("__classdict__" : Str)) = false := ⟨by decide +kernel, by decide +kernel⟩
theorem nd_first : (("first" : Str) == ("__debug__" : Str)) = false ∧ (("first" : Str) == ("__classdict__" : Str)) = false := ⟨by decide +kernel, by decide +kernel⟩
theorem nd_second : (("second" : Str) == ("__debug__" : Str)) = false ∧ (("second" : Str) == ("__classdict__" : Str)) = false := ⟨by decide +kernel, by decide +kernel⟩
theorem nd_low : (("low" : Str) == ("__debug__" : Str)) = false ∧ (("low" : Str) == ("__classdict__" : Str)) = false := ⟨by decide +kernel, by decide +kernel⟩
theorem nd_high : (("high" : Str) == ("__debug__" : Str)) = false ∧ (("high" : Str) == ("__classdict__" : Str)) = false := ⟨by decide +kernel, by decide +kernel⟩
theorem nd_ratio : (("ratio" : Str) == ("__debug__" : Str)) = false ∧ (("ratio" : Str) == ("__classdict__" : Str)) = false := ⟨by decide +kernel, by decide +kernel⟩
theorem nd_third : (("third" : Str) == ("__debug__" : Str)) = false ∧ (("third" : Str) == ("__classdict__" : Str)) = false := ⟨by decide +kernel, by decide +kernel⟩
theorem nd_fourth : (("fourth" : Str) == ("__debug__" : Str)) = false ∧ (("fourth" : Str) == ("__classdict__" : Str)) = false := ⟨by decide +kernel, by decide +kernel⟩
theorem nd_one : (("one" : Str) == ("__debug__" : Str)) = false ∧ (("one" : Str) == ("__classdict__" : Str)) = false := ⟨by decide +kernel, by decide +kernel⟩
theorem nd_script : (("script" : Str) == ("__debug__" : Str)) = false ∧ (("script" : Str) == ("__classdict__" : Str)) = false := ⟨by decide +kernel, by decide +kernel⟩
theorem nd_cell : (("cell" : Str) == ("__debug__" : Str)) = false ∧ (("cell" : Str) == ("__classdict__" : Str)) = false := ⟨by decide +kernel, by decide +kernel⟩
theorem nd_pot : (("pot" : Str) == ("__debug__" : Str)) = false ∧ (("pot" : Str) == ("__classdict__" : Str)) = false := ⟨by decide +kernel, by decide +kernel⟩
theorem nd_many : (("many" : Str) == ("__debug__" : Str)) = false ∧ (("many" : Str) == ("__classdict__" : Str)) = false := ⟨by decide +kernel, by decide +kernel⟩
theorem nd_digit : (("digit" : Str) == ("__debug__" : Str)) = false ∧ (("digit" : Str) == ("__classdict__" : Str)) = false := ⟨by decide +kernel, by decide +kernel⟩
theorem nd_kind : (("kind" : Str) == ("__debug__" : Str)) = false ∧ (("kind" : Str) == ("__classdict__" : Str)) = false := ⟨by decide +kernel, by decide +kernel⟩
theorem nd_p : (("p" : Str) == ("__debug__" : Str)) = false ∧ (("p" : Str) == ("__classdict__" : Str)) = false := ⟨by decide +kernel, by decide +kernel⟩
theorem nd_q : (("q" : Str) == ("__debug__" : Str)) = false ∧ (("q" : Str) == ("__classdict__" : Str)) = false := ⟨by decide +kernel, by decide +kernel⟩
theorem nd_shift : (("shift" : Str) == ("__debug__" : Str)) = false ∧ (("shift" : Str) == ("__classdict__" : Str)) = false := ⟨by decide +kernel, by decide +kernel⟩
theorem nd_s : (("s" : Str) == ("__debug__" : Str)) = false ∧ (("s" : Str) == ("__classdict__" : Str)) = false := ⟨by decide +kernel, by decide +kernel⟩
theorem nd_sixths : (("sixths" : Str) == ("__debug__" : Str)) = false ∧ (("sixths" : Str) == ("__classdict__" : Str)) = false := ⟨by decide +kernel, by decide +kernel⟩
theorem nd_way : (("way" : Str) == ("__debug__" : Str)) = false ∧ (("way" : Str) == ("__classdict__" : Str)) = false := ⟨by decide +kernel, by decide +kernel⟩
theorem nd_op : (("op" : Str) == ("__debug__" : Str)) = false ∧ (("op" : Str) == ("__classdict__" : Str)) = false := ⟨by decide +kernel, by decide +kernel⟩
theorem nd_a : (("a" : Str) == ("__debug__" : Str)) = false ∧ (("a" : Str) == ("__classdict__" : Str)) = false := ⟨by decide +kernel, by decide +kernel⟩
theorem nd_b : (("b" : Str) == ("__debug__" : Str)) = false ∧ (("b" : Str) == ("__classdict__" : Str)) = false := ⟨by decide +kernel, by decide +kernel⟩
theorem nd_told : (("told" : Str) == ("__debug__" : Str)) = false ∧ (("told" : Str) == ("__classdict__" : Str)) = false := ⟨by decide +kernel, by decide +kernel⟩
theorem nd_u : (("u" : Str) == ("__debug__" : Str)) = false ∧ (("u" : Str) == ("__classdict__" : Str)) = false := ⟨by decide +kernel, by decide +kernel⟩
theorem nd_v : (("v" : Str) == ("__debug__" : Str)) = false ∧ (("v" : Str) == ("__classdict__" : Str)) = false := ⟨by decide +kernel, by decide +kernel⟩
theorem nd_k : (("k" : Str) == ("__debug__" : Str)) = false ∧ (("k" : Str) == ("__classdict__" : Str)) = false := ⟨by decide +kernel, by decide +kernel⟩
theorem nd_rest : (("rest" : Str) == ("__debug__" : Str)) = false ∧ (("rest" : Str) == ("__classdict__" : Str)) = false := ⟨by decide +kernel, by decide +kernel⟩
theorem nd_t : (("t" : Str) == ("__debug__" : Str)) = false ∧ (("t" : Str) == ("__classdict__" : Str)) = false := ⟨by decide +kernel, by decide +kernel⟩
theorem nd_x : (("x" : Str) == ("__debug__" : Str)) = false ∧ (("x" : Str) == ("__classdict__" : Str)) = false := ⟨by decide +kernel, by decide +kernel⟩
theorem nd_y : (("y" : Str) == ("__debug__" : Str)) = false ∧ (("y" : Str) == ("__classdict__" : Str)) = false := ⟨by decide +kernel, by decide +kernel⟩
theorem nd_corners : (("corners" : Str) == ("__debug__" : Str)) = false ∧ (("corners" : Str) == ("__classdict__" : Str)) = false := ⟨by decide +kernel, by decide +kernel⟩
theorem nd_found : (("found" : Str) == ("__debug__" : Str)) = false ∧ (("found" : Str) == ("__classdict__" : Str)) = false := ⟨by decide +kernel, by decide +kernel⟩
theorem nd_two : (("two" : Str) == ("__debug__" : Str)) = false ∧ (("two" : Str) == ("__classdict__" : Str)) = false := ⟨by decide +kernel, by decide +kernel⟩
theorem nd_e : (("e" : Str) == ("__debug__" : Str)) = false ∧ (("e" : Str) == ("__classdict__" : Str)) = false := ⟨by decide +kernel, by decide +kernel⟩
theorem nd_z : (("z" : Str) == ("__debug__" : Str)) = false ∧ (("z" : Str) == ("__classdict__" : Str)) = false := ⟨by decide +kernel, by decide +kernel⟩
theorem nd_Apart : (("Apart" : Str) == ("__debug__" : Str)) = false ∧ (("Apart" : Str) == ("__classdict__" : Str)) = false := ⟨by decide +kernel, by decide +kernel⟩
theorem nd_BadNumber : (("BadNumber" : Str) == ("__debug__" : Str)) = false ∧ (("BadNumber" : Str) == ("__classdict__" : Str)) = false := ⟨by decide +kernel, by decide +kernel⟩
theorem nd_CarryError : (("CarryError" : Str) == ("__debug__" : Str)) = false ∧ (("CarryError" : Str) == ("__classdict__" : Str)) = false := ⟨by decide +kernel, by decide +kernel⟩
theorem nd_Crossed : (("Crossed" : Str) == ("__debug__" : Str)) = false ∧ (("Crossed" : Str) == ("__classdict__" : Str)) = false := ⟨by decide +kernel, by decide +kernel⟩
theorem nd_OutOfBounds : (("OutOfBounds" : Str) == ("__debug__" : Str)) = false ∧ (("OutOfBounds" : Str) == ("__classdict__" : Str)) = false := ⟨by decide +kernel, by decide +kernel⟩
theorem nd_ZeroBottom : (("ZeroBottom" : Str) == ("__debug__" : Str)) = false ∧ (("ZeroBottom" : Str) == ("__classdict__" : Str)) = false := ⟨by decide +kernel, by decide +kernel⟩
abbrev N_Ratio___init__ : List Str := ["self", "top", "bottom", "shared"]
theorem sc_Ratio___init__ : FnScope N_Ratio___init__ ["self", "top", "bottom"] (defScope s_Ratio___init__) := ⟨rfl, rfl, rfl, by decide +kernel, rfl, by decide +kernel, by decide +kernel⟩
abbrev N_Ratio___add__ : List Str := ["self", "other"]
theorem sc_Ratio___add__ : FnScope N_Ratio___add__ ["self", "other"] (defScope s_Ratio___add__) := ⟨rfl, rfl, rfl, by decide +kernel, rfl, by decide +kernel, by decide +kernel⟩
abbrev N_Ratio___sub__ : List Str := ["self", "other"]
theorem sc_Ratio___sub__ : FnScope N_Ratio___sub__ ["self", "other"] (defScope s_Ratio___sub__) := ⟨rfl, rfl, rfl, by decide +kernel, rfl, by decide +kernel, by decide +kernel⟩
abbrev N_Ratio___mul__ : List Str := ["self", "other"]
theorem sc_Ratio___mul__ : FnScope N_Ratio___mul__ ["self", "other"] (defScope s_Ratio___mul__) := ⟨rfl, rfl, rfl, by decide +kernel, rfl, by decide +kernel, by decide +kernel⟩
abbrev N_Ratio___neg__ : List Str := ["self"]
theorem sc_Ratio___neg__ : FnScope N_Ratio___neg__ ["self"] (defScope s_Ratio___neg__) := ⟨rfl, rfl, rfl, by decide +kernel, rfl, by decide +kernel, by decide +kernel⟩
abbrev N_Ratio_divided : List Str := ["self", "other"]
theorem sc_Ratio_divided : FnScope N_Ratio_divided ["self", "other"] (defScope s_Ratio_divided) := ⟨rfl, rfl, rfl, by decide +kernel, rfl, by decide +kernel, by decide +kernel⟩
abbrev N_Ratio_compare : List Str := ["self", "other", "left", "right"]
theorem sc_Ratio_compare : FnScope N_Ratio_compare ["self", "other"] (defScope s_Ratio_compare) := ⟨rfl, rfl, rfl, by decide +kernel, rfl, by decide +kernel, by decide +kernel⟩
abbrev N_Ratio_sign : List Str := ["self"]
theorem sc_Ratio_sign : FnScope N_Ratio_sign ["self"] (defScope s_Ratio_sign) := ⟨rfl, rfl, rfl, by decide +kernel, rfl, by decide +kernel, by decide +kernel⟩
abbrev N_lesser : List Str := ["first", "second"]
theorem sc_lesser : FnScope N_lesser ["first", "second"] (defScope s_lesser) := ⟨rfl, rfl, rfl, by decide +kernel, rfl, by decide +kernel, by decide +kernel⟩
abbrev N_greater : List Str := ["first", "second"]
theorem sc_greater : FnScope N_greater ["first", "second"] (defScope s_greater) := ⟨rfl, rfl, rfl, by decide +kernel, rfl, by decide +kernel, by decide +kernel⟩
abbrev N_Span___init__ : List Str := ["self", "low", "high"]
theorem sc_Span___init__ : FnScope N_Span___init__ ["self", "low", "high"] (defScope s_Span___init__) := ⟨rfl, rfl, rfl, by decide +kernel, rfl, by decide +kernel, by decide +kernel⟩
abbrev N_Span___contains__ : List Str := ["self", "ratio"]
theorem sc_Span___contains__ : FnScope N_Span___contains__ ["self", "ratio"] (defScope s_Span___contains__) := ⟨rfl, rfl, rfl, by decide +kernel, rfl, by decide +kernel, by decide +kernel⟩
abbrev N_Span___add__ : List Str := ["self", "other"]
theorem sc_Span___add__ : FnScope N_Span___add__ ["self", "other"] (defScope s_Span___add__) := ⟨rfl, rfl, rfl, by decide +kernel, rfl, by decide +kernel, by decide +kernel⟩
abbrev N_Span___sub__ : List Str := ["self", "other"]
theorem sc_Span___sub__ : FnScope N_Span___sub__ ["self", "other"] (defScope s_Span___sub__) := ⟨rfl, rfl, rfl, by decide +kernel, rfl, by decide +kernel, by decide +kernel⟩
abbrev N_Span___mul__ : List Str := ["self", "other", "first", "second", "third", "fourth", "low", "high"]
theorem sc_Span___mul__ : FnScope N_Span___mul__ ["self", "other"] (defScope s_Span___mul__) := ⟨rfl, rfl, rfl, by decide +kernel, rfl, by decide +kernel, by decide +kernel⟩
abbrev N_Span___neg__ : List Str := ["self"]
theorem sc_Span___neg__ : FnScope N_Span___neg__ ["self"] (defScope s_Span___neg__) := ⟨rfl, rfl, rfl, by decide +kernel, rfl, by decide +kernel, by decide +kernel⟩
abbrev N_Span_divided : List Str := ["self", "other", "one"]
theorem sc_Span_divided : FnScope N_Span_divided ["self", "other"] (defScope s_Span_divided) := ⟨rfl, rfl, rfl, by decide +kernel, rfl, by decide +kernel, by decide +kernel⟩
abbrev N_Span_least : List Str := ["self", "other"]
theorem sc_Span_least : FnScope N_Span_least ["self", "other"] (defScope s_Span_least) := ⟨rfl, rfl, rfl, by decide +kernel, rfl, by decide +kernel, by decide +kernel⟩
abbrev N_Span_greatest : List Str := ["self", "other"]
theorem sc_Span_greatest : FnScope N_Span_greatest ["self", "other"] (defScope s_Span_greatest) := ⟨rfl, rfl, rfl, by decide +kernel, rfl, by decide +kernel, by decide +kernel⟩
abbrev N__law_start : List Str := ["script", "cell"]
theorem sc__law_start : FnScope N__law_start ["script"] (defScope s__law_start) := ⟨rfl, rfl, rfl, by decide +kernel, rfl, by decide +kernel, by decide +kernel⟩
abbrev N__law_digit : List Str := ["pot", "many", "digit"]
theorem sc__law_digit : FnScope N__law_digit ["pot", "many"] (defScope s__law_digit) := ⟨rfl, rfl, rfl, by decide +kernel, rfl, by decide +kernel, by decide +kernel⟩
abbrev N__law_fraction : List Str := ["pot", "kind", "top"]
theorem sc__law_fraction : FnScope N__law_fraction ["pot"] (defScope s__law_fraction) := ⟨rfl, rfl, rfl, by decide +kernel, rfl, by decide +kernel, by decide +kernel⟩
abbrev N__law_less : List Str := ["p", "q"]
theorem sc__law_less : FnScope N__law_less ["p", "q"] (defScope s__law_less) := ⟨rfl, rfl, rfl, by decide +kernel, rfl, by decide +kernel, by decide +kernel⟩
abbrev N__law_plus : List Str := ["p", "q"]
theorem sc__law_plus : FnScope N__law_plus ["p", "q"] (defScope s__law_plus) := ⟨rfl, rfl, rfl, by decide +kernel, rfl, by decide +kernel, by decide +kernel⟩
abbrev N__law_ends : List Str := ["pot", "shift", "kind", "p", "q"]
theorem sc__law_ends : FnScope N__law_ends ["pot", "shift"] (defScope s__law_ends) := ⟨rfl, rfl, rfl, by decide +kernel, rfl, by decide +kernel, by decide +kernel⟩
abbrev N__law_between : List Str := ["pot", "s", "sixths", "way"]
theorem sc__law_between : FnScope N__law_between ["pot", "s"] (defScope s__law_between) := ⟨rfl, rfl, rfl, by decide +kernel, rfl, by decide +kernel, by decide +kernel⟩
abbrev N__law_own : List Str := ["op", "p", "q"]
theorem sc__law_own : FnScope N__law_own ["op", "p", "q"] (defScope s__law_own) := ⟨rfl, rfl, rfl, by decide +kernel, rfl, by decide +kernel, by decide +kernel⟩
abbrev N__law_asked : List Str := ["op", "a", "b"]
theorem sc__law_asked : FnScope N__law_asked ["op", "a", "b"] (defScope s__law_asked) := ⟨rfl, rfl, rfl, by decide +kernel, rfl, by decide +kernel, by decide +kernel⟩
abbrev N__law_equals : List Str := ["told", "p", "u", "v", "k", "rest"]
theorem sc__law_equals : FnScope N__law_equals ["told", "p"] (defScope s__law_equals) := ⟨rfl, rfl, rfl, by decide +kernel, rfl, by decide +kernel, by decide +kernel⟩
abbrev N__law_is_span : List Str := ["told", "low", "high"]
theorem sc__law_is_span : FnScope N__law_is_span ["told", "low", "high"] (defScope s__law_is_span) := ⟨rfl, rfl, rfl, by decide +kernel, rfl, by decide +kernel, by decide +kernel⟩
abbrev N__law_fits : List Str := ["told", "op", "s", "t", "x", "y", "corners", "found", "two", "low", "high", "p"]
theorem sc__law_fits : FnScope N__law_fits ["told", "op", "s", "t", "x", "y"] (defScope s__law_fits) := ⟨rfl, rfl, rfl, by decide +kernel, rfl, by decide +kernel, by decide +kernel⟩
abbrev N__law_no_quotient : List Str := ["a", "b", "e"]
theorem sc__law_no_quotient : FnScope N__law_no_quotient ["a", "b"] (defScope s__law_no_quotient) := ⟨rfl, rfl, rfl, by decide +kernel, rfl, by decide +kernel, by decide +kernel⟩
abbrev N__law_all : List Str := ["a", "b", "s", "t", "x", "y", "op"]
theorem sc__law_all : FnScope N__law_all ["a", "b", "s", "t", "x", "y"] (defScope s__law_all) := ⟨rfl, rfl, rfl, by decide +kernel, rfl, by decide +kernel, by decide +kernel⟩
abbrev N_law : List Str := ["script", "pot", "s", "t", "x", "y", "z", "a", "b"]
theorem sc_law : FnScope N_law ["script"] (defScope s_law) := ⟨rfl, rfl, rfl, by decide +kernel, rfl, by decide +kernel, by decide +kernel⟩

theorem bt_abs : bootBuiltins "abs" = some (.builtin "abs") := by decide +kernel
theorem bt_len : bootBuiltins "len" = some (.builtin "len") := by decide +kernel
theorem bt_min : bootBuiltins "min" = some (.builtin "min") := by decide +kernel
theorem bt_max : bootBuiltins "max" = some (.builtin "max") := by decide +kernel
theorem bt_int : bootBuiltins "int" = some (.type "int") := by decide +kernel
theorem bt_bool : bootBuiltins "bool" = some (.type "bool") := by decide +kernel
theorem bt_str : bootBuiltins "str" = some (.type "str") := by decide +kernel
theorem bt_ValueError : bootBuiltins "ValueError" = some (.type "ValueError") := by decide +kernel
theorem bt_isinstance : bootBuiltins "isinstance" = some (.builtin "isinstance") := by decide +kernel

structure Txt (G : Gx) (C_Ratio C_Span C_ZeroBottom C_Apart C_CarryError : Addr) : Prop where
  n_abs : G.mg "abs" = none
  n_len : G.mg "len" = none
  n_int : G.mg "int" = none
  n_bool : G.mg "bool" = none
  n_range : G.mg "range" = none
  n_isinstance : G.mg "isinstance" = none
  n_ValueError : G.mg "ValueError" = none
  mg_gcd : G.mg "gcd" = some (.builtin "math.gcd")
  mg_Ratio : G.mg "Ratio" = some (.ref C_Ratio)
  mg_Span : G.mg "Span" = some (.ref C_Span)
  mg_ZeroBottom : G.mg "ZeroBottom" = some (.ref C_ZeroBottom)
  mg_Apart : G.mg "Apart" = some (.ref C_Apart)
  mg_CarryError : G.mg "CarryError" = some (.ref C_CarryError)
  R_Ratio : RatC G.K C_Ratio
  S_Span : SpnC G.K C_Span
  x0_ZeroBottom : Exc0 G "ZeroBottom" C_ZeroBottom
  XC_ZeroBottom : ExK G.K C_ZeroBottom
  is_Ratio_Ratio : PySem.W.kitOne G.K (.ref C_Ratio) (.ref C_Ratio) = some true
  is_Span_Span : PySem.W.kitOne G.K (.ref C_Span) (.ref C_Span) = some true
  is_ZeroBottom_ZeroBottom : PySem.W.kitOne G.K (.ref C_ZeroBottom) (.ref C_ZeroBottom) = some true
  is_ZeroBottom_Apart : PySem.W.kitOne G.K (.ref C_ZeroBottom) (.ref C_Apart) = some false
  isT_ZeroBottom_ValueError : PySem.W.kitOne G.K (.ref C_ZeroBottom) (.type "ValueError") = some true
  ex_ZeroBottom_CarryError : PySem.W.exmOne G.K (.ref C_ZeroBottom) (.ref C_CarryError) = some true

/-! one step, by the goal's head -/
local macro_rules | `(tactic| walk_at "sWe") => `(tactic| first
  | ((with_reducible refine we_var (d := ?d) ?hv ?hk); case hv => rfl)
  | (with_reducible first
    | refine we_cint ?_ | refine we_2 ?_ | refine we_fldF ?_ | refine we_cl0 ?_ | refine we_tup ?_ | refine we_1 ?_ | refine we_c2 ?_ | refine we_cbl ?_ | refine we_cnon ?_ | refine we_cty ?_ | refine we_cref ?_
    | refine we_op ?_ | refine we_andV ?_ | refine we_orV ?_ | refine we_notV ?_ | refine we_3 ?_ | refine we_ifx ?_ | refine we_clH ?_)
  | walk_at "useWe")
local macro_rules | `(tactic| walk_at "sWt") => `(tactic| with_reducible first | refine wt_test ?_ | refine wt_tr ?_ | refine wt_and ?_ | refine wt_or ?_ | refine wt_not ?_)
local macro_rules | `(tactic| walk_at "sWa") => `(tactic| with_reducible first | refine wa_nil ?_ | refine wa_cons ?_)
local macro_rules | `(tactic| walk_at "sW2") => `(tactic| first
  | (with_reducible first
    | refine w2_add ?_ | refine w2_sub ?_ | refine w2_mul ⟨?_, ?_⟩ | refine w2_fdiv ⟨?_, ?_⟩ | refine w2_mod ⟨?_, ?_⟩ | refine w2_pow ⟨?_, ?_⟩ | refine w2_eqI ?_ | refine w2_neI ?_ | refine w2_lt ?_ | refine w2_le ?_ | refine w2_gt ?_ | refine w2_ge ?_)
  | ((with_reducible refine w2_ixT (d := ?d) ⟨?hv, ?hk⟩); case hv => rfl)
  | ((with_reducible refine w2_ixL (d := ?d) ⟨?hv, ?hk⟩); case hv => rfl)
  | ((with_reducible refine w2_ixM (d := ?d) .head ⟨?hv, ?hk⟩); case hv => rfl)
  | (with_reducible first
    | refine w2_eqIH ?_ | refine w2_neIH ?_ | refine w2_mulH ⟨?_, ?_⟩ | refine w2_addH ?_ | refine w2_subH ?_ | refine w2_isN ?_ | refine w2_notN ?_ | refine w2_isB ?_ | refine w2_notB ?_)
  | walk_at "useW2")
local macro_rules | `(tactic| walk_at "sW1") => `(tactic| first | (with_reducible refine w1_neg ?_) | walk_at "useW2")
local macro_rules | `(tactic| walk_at "sWc") => `(tactic| first
  | (with_reducible first | refine wc_int ?_ | refine wc_abs ?_ | refine wc_min ?_ | refine wc_gcd ?_ | refine wc_isiT .int kit_ii ?_ | refine wc_isiT .int kit_ib ?_ | refine wc_len .lst ?_ | refine wc_len .tup ?_)
  | walk_at "useWc")
local macro_rules | `(tactic| walk_at "sWg") => `(tactic| with_reducible first | refine wg_name ?_ | refine wg_subM ?_ | refine wg_tup rfl ?_)
local macro_rules | `(tactic| walk_at "sWgs") => `(tactic| with_reducible first | refine wgs_cons ?_ | refine wgs_nil ?_)
local macro_rules | `(tactic| walk_at "sWs") => `(tactic| first
  | (with_reducible first | refine ws_seq ?_ | refine ws_ret ?_ | refine ws_asg ?_ | refine ws_next ?_ | refine ws_drop ?_ | refine ws_par ?_ | refine ws_par3 ?_ | refine ws_fldN ?_ | refine ws_brk ?_ | refine ws_cont ?_)
  | walk_at "useWs")
local macro_rules | `(tactic| walk_at "sX") => `(tactic| first
  | (with_reducible refine ⟨_, rfl, ?_⟩)
  | (with_reducible refine fld_top (by assumption) ?_) | (with_reducible refine fld_bottom (by assumption) ?_)
  | (with_reducible refine ⟨_, .bl, ?_⟩)
  | ((with_reducible refine ⟨?h, ?_⟩); case h => rfl)
  | (with_reducible refine ⟨_, _, rfl, ?_⟩)
  | (with_reducible refine ⟨_, _, _, rfl, ?_⟩)
  | walk_at "use"
  | (with_reducible refine setN_top (by assumption) ?_) | (with_reducible refine setN_bottom (by assumption) ?_)
  | ((with_reducible refine ⟨_, _, _, ?j, _, rfl, rfl, .head, ?h, .head, ?_⟩); case h => rfl)
  | fail)
local macro_rules | `(tactic| walk_at "br") => `(tactic| ((with_reducible refine ⟨fun hb => ?_, fun hb => ?_⟩) <;> (try simp only [decide_eq_true_eq, decide_eq_false_iff_not, Bool.not_eq_true', Bool.not_eq_false', Bool.and_eq_true, Bool.or_eq_true, reduceCtorEq, List.length_map, Bool.not_true, Bool.not_false, isNon] at hb)))
local macro_rules | `(tactic| walk_at "wif") => `(tactic| (with_reducible refine ws_if ?_))
local macro_rules | `(tactic| walk_at "st") => `(tactic| first
  | ((with_reducible show We _ _ _ _ _ _); walk_at "sWe")
  | ((with_reducible show W2 _ _ _ _ _ _ _ _); walk_at "sW2")
  | ((with_reducible show Wa _ _ _ _ _ _); walk_at "sWa")
  | ((with_reducible show Ws _ _ _ _ _ _); walk_at "sWs")
  | ((with_reducible show Wt _ _ _ _ _ _); walk_at "sWt")
  | ((with_reducible show Wc _ _ _ _ _ _ _); walk_at "sWc")
  | ((with_reducible show Wg _ _ _ _ _ _ _); walk_at "sWg")
  | ((with_reducible show W1 _ _ _ _ _ _ _); walk_at "sW1")
  | ((with_reducible show Wgs _ _ _ _ _ _ _); walk_at "sWgs")
  | walk_at "sX" | fail)
local macro_rules | `(tactic| walk_at "dl") => `(tactic| repeat (first | walk_at "st" | walk_at "wif" | fail))
local macro_rules | `(tactic| walk_at "gn") => `(tactic| repeat' (first | walk_at "st" | walk_at "br" | fail))
local macro_rules | `(tactic| walk_at "go") => `(tactic| repeat' (first | walk_at "st" | walk_at "wif" | walk_at "br" | fail))
local macro_rules | `(tactic| walk_at "useWe") => `(tactic| first | (with_reducible refine we_mt ?_) | (with_reducible refine we_ratQ ?_) | (with_reducible refine we_ratQ1 ?_) | (with_reducible refine we_spn ?_) | fail)
local macro_rules | `(tactic| walk_at "useW2") => `(tactic| first
  | (with_reducible refine w2_addO (by assumption) (by decide) .fixed .fixed ?_) | (with_reducible refine w2_subO (by assumption) (by decide) .fixed .fixed ?_) | (with_reducible refine w2_mulO (by assumption) (by decide) .fixed .fixed ?_) | (with_reducible refine w1_negO (by assumption) (by decide) .fixed ?_) | (with_reducible refine w2_inO (by assumption) (by decide) .fixed ?_) | fail)
local macro_rules | `(tactic| walk_at "useWc") => `(tactic| fail)
local macro_rules | `(tactic| walk_at "useWs") => `(tactic| first | (with_reducible refine ws_rs0 ?_) | (with_reducible refine ws_rs ?_) | fail)
local macro_rules | `(tactic| walk_at "use") => `(tactic| fail)

/-! Ratio and Span by numbers: their promises used -/
local macro_rules | `(tactic| walk_at "useq") => `(tactic| first
  | (with_reducible refine fld_low (by assumption) ?_) | (with_reducible refine fld_high (by assumption) ?_)
  | (with_reducible refine mt_of0 (by assumption) (by decide) ?_) | (with_reducible refine RatQ.mk ?_ ?_ ?_)
  | (with_reducible refine use_qcmp ?_ ?_ ?_) | (with_reducible refine use_qsign ?_)
  | (with_reducible refine use_qleast ?_ ?_ ?_) | (with_reducible refine use_qgreat ?_ ?_ ?_)
  | (with_reducible refine use_qadd ?_ ?_ ?_) | (with_reducible refine use_qsub ?_ ?_ ?_) | (with_reducible refine use_qmul ?_ ?_ ?_) | (with_reducible refine use_qdiv ?_ ?_ ?_ ?_) | (with_reducible refine use_qneg ?_ ?_)
  | (with_reducible refine SpnA.mk ?_ ?_ ?_ ?_)
  | (with_reducible refine use_s2 ?_ ?_) | (with_reducible refine use_sneg ?_ ?_ ?_ ?_) | (with_reducible refine use_scont ?_ ?_ ?_ ?_) | (with_reducible refine use_sdiv ?_ ?_ ?_)
  | (with_reducible refine setN_low (by assumption) ?_) | (with_reducible refine setN_high (by assumption) ?_)
  | fail)

section
variable {G : Gx} {C_Ratio C_Span C_ZeroBottom C_Apart C_CarryError : Addr}
theorem ok_digit (T : Txt G C_Ratio C_Span C_ZeroBottom C_Apart C_CarryError) {f : Addr} {fd : FuncData} (F : L2.Fun G.K "_law_digit" "_law_digit" s__law_digit f fd) (b : Binds G.K fd ["pot", "many"] []) : Fnx G 1 f 2 S_digit [] := by
  refine fnx_of F sc__law_digit rfl b .nil rfl (fun cdv A outer s H FF hr tk => ⟨_, (pss_cons (ps_if (PW.pt (pw_and (pt_cm (os_eq hr tk) (pe_ix ix_seq (pe_var (i := 0) rfl (Or.inl rfl) nd_pot.1 nd_pot.2) pe_int (fun _ _ => rfl)) pe_int (nomark _)) (pw_and1 (pt_cm os_lt (pe_ix ix_seq (pe_var (i := 0) rfl (Or.inl rfl) nd_pot.1 nd_pot.2) pe_int (fun _ _ => rfl)) (pe_cb cs_len rfl T.n_len bt_len (pa_cons (pe_ix ix_seq (pe_var (i := 0) rfl (Or.inl rfl) nd_pot.1 nd_pot.2) pe_int (fun _ _ => rfl)) pa_nil)) (nomark _))))) (pss_cons (ps_asg (pe_ix ix_seq (pe_ix ix_seq (pe_var (i := 0) rfl (Or.inl rfl) nd_pot.1 nd_pot.2) pe_int (fun _ _ => rfl)) (pe_ix ix_seq (pe_var (i := 0) rfl (Or.inl rfl) nd_pot.1 nd_pot.2) pe_int (fun _ _ => rfl)) (fun _ _ => rfl)) (pg_sub (pe_var (i := 0) rfl (Or.inl rfl) nd_pot.1 nd_pot.2) pe_int set_list)) (pss_one (ps_asg (pe_bin (os_add hr tk) (pe_ix ix_seq (pe_var (i := 0) rfl (Or.inl rfl) nd_pot.1 nd_pot.2) pe_int (fun _ _ => rfl)) pe_int) (pg_sub (pe_var (i := 0) rfl (Or.inl rfl) nd_pot.1 nd_pot.2) pe_int set_list)))) pss_nil) (pss_cons (ps_set (i := 2) sc__law_digit.nd rfl (Or.inl rfl) (pe_bin os_mod (pe_ct cs_int rfl T.n_int bt_int (pa_cons (pe_ix ix_seq (pe_var (i := 0) rfl (Or.inl rfl) nd_pot.1 nd_pot.2) pe_int (fun _ _ => rfl)) pa_nil)) (pe_var (i := 1) rfl (Or.inl rfl) nd_many.1 nd_many.2))) (pss_cons (ps_asg (pe_bin os_fdiv (pe_ix ix_seq (pe_var (i := 0) rfl (Or.inl rfl) nd_pot.1 nd_pot.2) pe_int (fun _ _ => rfl)) (pe_var (i := 1) rfl (Or.inl rfl) nd_many.1 nd_many.2)) (pg_sub (pe_var (i := 0) rfl (Or.inl rfl) nd_pot.1 nd_pot.2) pe_int set_list)) (pss_one (ps_ret (pe_var (i := 2) rfl (Or.inl rfl) nd_digit.1 nd_digit.2)))))), ?_⟩)
  rintro ds m K E - ⟨p, many, m0, rfl, h0, hb, ⟨cs, i, r, rfl, hi, hrr, hcs⟩, k⟩
  show Ws _ _ _ [some (.ref p), some (.int many), none] _ _
  dsimp only [cx_G, cx_K]
  have fin : ∀ (cs : List Int) (i r : Int), 0 ≤ i → 0 ≤ r → (∀ c ∈ cs, 0 ≤ c) → K (.int (r.fmod many)) ((p, .lst [.lst (cs.map D.int), .int i, .int (r.fdiv many)]) :: m0) := fun cs i r hi hr hc => by
    rw [Int.fmod_eq_emod_of_nonneg _ (by omega), Int.fdiv_eq_ediv_of_nonneg _ (by omega)]
    exact k _ _ (Int.emod_nonneg _ (by omega)) (Int.emod_lt_of_pos _ h0) ⟨cs, i, _, rfl, hi, Int.ediv_nonneg hr (by omega), hc⟩
  have hne : many ≠ 0 := by omega
  have hdv : CDivX r many := hb.divX hne (by decide)
  walk_at "go"
  · obtain ⟨c, hc, hat⟩ := atI_ints hi ‹i < _›
    refine w2_ixL ⟨hat, ?_⟩
    walk_at "go"
    · exact hne
    · exact hb.divX hne (by decide)
    · exact fin _ _ _ (by omega) (hcs _ hc) hcs
  all_goals first | exact hne | exact hdv | exact fin _ _ _ hi hrr hcs
theorem cut_pot {ns : List Int} (h : ns.length ≤ 63) : cutD (ns.map D.int) none (some 63) = ns.map D.int := cut63 (by rw [List.length_map]; exact h)
def dabs : D → D
  | .int i => .int (i.natAbs : Int)
  | d => d
theorem ok_pot (T : Txt G C_Ratio C_Span C_ZeroBottom C_Apart C_CarryError) {f : Addr} {fd : FuncData} (F : L2.Fun G.K "_law_start" "_law_start" s__law_start f fd) (b : L2.Binds G.K fd ["script"] []) : Fnx G 1 f 1 (S_pot G.K) [] := by
  refine fnx_of F sc__law_start rfl b .nil rfl (fun cdv A outer s H FF hr tk => ⟨_, (pss_one (ps_ret (pe_lst (pa_cons (pe_lc (own := [("cell", 1)]) (g := gName 1) (tt := tYes) rfl sc__law_start.nd (pi_seq (pe_slice sl_list (pe_var (i := 0) rfl (Or.inl rfl) nd_script.1 nd_script.2) po_none (po_some pe_int))) (blkOk_by (N := N__law_start) (sc := defScope s__law_start) (by decide +kernel)) (fun _ _ _ _ _ => pg_name (i := 1) sc__law_start.nd rfl (Or.inl rfl)) (fun _ _ _ _ _ => pts_nil) (fun _ _ _ _ _ => (pe_cb cs_abs rfl T.n_abs bt_abs (pa_cons (pe_var (i := 1) rfl (Or.inl rfl) nd_cell.1 nd_cell.2) pa_nil)))) (pa_cons pe_int (pa_cons pe_int pa_nil)))))), ?_⟩)
  rintro ds m K E - ⟨d, ns, rfl, sd, hl, k⟩
  show Ws _ _ _ [some d, none] _ _
  dsimp only [cx_G, cx_K]
  refine ws_ret (we_lstM (wa_cons (we_lcm (f := dabs) (we_slS ?_))))
  walk_at "dl"
  refine ⟨ns, sd, wo_none (wo_some ?_)⟩
  walk_at "dl"
  rw [cut_pot hl]
  refine ⟨_, .lst, by rw [List.length_map]; exact Nat.ble_eq_true_of_le (by omega), ?_, ?_⟩
  · intro x hx q K2 hk
    obtain ⟨i, hi, rfl⟩ := List.mem_map.mp hx
    walk_at "dl"
    exact hk
  · walk_at "dl"
    intro p hp
    have e : (ns.map D.int).map dabs = (ns.map fun i => (i.natAbs : Int)).map D.int := by
      rw [List.map_map, List.map_map]; rfl
    refine k p _ hp ⟨_, 0, 0, by rw [e], by omega, by omega, fun c hc => ?_⟩
    obtain ⟨i, _, rfl⟩ := List.mem_map.mp hc
    omega

theorem ok_init (T : Txt G C_Ratio C_Span C_ZeroBottom C_Apart C_CarryError) {f : Addr} {fd : FuncData} {dvs : List V} (F : FunW G.K "__init__" "Ratio.__init__" s_Ratio___init__ dvs f fd) {ds : List Value} {dd : List D} (b : L2.Binds G.K fd ["self", "top", "bottom"] ds) (d : L2.Vals (dd.map ofD) ds) (cs : dd.all isC = true) : Fnx G 1 f 3 (S_init C_Ratio) dd := by
  refine fnx_ofD F sc_Ratio___init__ rfl b d cs (fun cdv A outer s H FF hr tk => ⟨_, (pss_cons (ps_if (pt_cm (os_eq hr tk) (pe_var (i := 2) rfl (Or.inl rfl) nd_bottom.1 nd_bottom.2) pe_int (nomark _)) (pss_one (ps_rs0 T.x0_ZeroBottom rfl tk rfl)) pss_nil) (pss_cons (ps_set (i := 3) sc_Ratio___init__.nd rfl (Or.inl rfl) (pe_cf cs_gcd rfl T.mg_gcd (pa_cons (pe_var (i := 1) rfl (Or.inl rfl) nd_top.1 nd_top.2) (pa_cons (pe_var (i := 2) rfl (Or.inl rfl) nd_bottom.1 nd_bottom.2) pa_nil)))) (pss_cons (ps_if (pt_cm os_lt (pe_var (i := 2) rfl (Or.inl rfl) nd_bottom.1 nd_bottom.2) pe_int (nomark _)) (pss_one (ps_set (i := 3) sc_Ratio___init__.nd rfl (Or.inl rfl) (pe_una (us_neg hr tk) (pe_var (i := 3) rfl (Or.inl rfl) nd_shared.1 nd_shared.2)))) pss_nil) (pss_cons (ps_fld (pe_var (i := 0) rfl (Or.inl rfl) nd_self.1 nd_self.2) (pe_bin os_fdiv (pe_var (i := 1) rfl (Or.inl rfl) nd_top.1 nd_top.2) (pe_var (i := 3) rfl (Or.inl rfl) nd_shared.1 nd_shared.2)) rfl) (pss_one (ps_fld (pe_var (i := 0) rfl (Or.inl rfl) nd_self.1 nd_self.2) (pe_bin os_fdiv (pe_var (i := 2) rfl (Or.inl rfl) nd_bottom.1 nd_bottom.2) (pe_var (i := 3) rfl (Or.inl rfl) nd_shared.1 nd_shared.2)) rfl)))))), ?_⟩)
  rintro ds m K E - ⟨x, m0, t, b, rfl, rfl, hb0, hbb, k⟩
  show Ws _ _ _ [some (.ref x), some (.int t), some (.int b), none] _ _
  dsimp only [cx_G, cx_K]
  have gp := gc_pos (t := t) hb0
  have gb := gc_bd (t := t) hb0 hbb
  have R := T.R_Ratio
  have gn : gc t b ≠ 0 := by omega
  have fin1 : ¬ b < 0 → t.fdiv (gc t b) = rT t b ∧ b.fdiv (gc t b) = rB t b := fun h => by
    unfold rT rB
    rw [if_neg h, if_neg h, fdiv_pos gp, fdiv_pos gp]
    exact ⟨rfl, rfl⟩
  have fin2 : b < 0 → t.fdiv (-gc t b) = rT t b ∧ b.fdiv (-gc t b) = rB t b := fun h => by
    unfold rT rB
    rw [if_pos h, if_pos h, fdiv_neg' gp (gc_dvd1 t b), fdiv_neg' gp (gc_dvd2 t b)]
    exact ⟨rfl, rfl⟩
  have c1 : ∀ z : Int, CDivX z (-((t.natAbs.gcd b.natAbs : Nat) : Int)) := fun z => gb.neg.divX (by omega) (by decide)
  have c2 : ∀ z : Int, CDivX z ((t.natAbs.gcd b.natAbs : Nat) : Int) := fun z => gb.divX gn (by decide)
  have k1 : b < 0 → K .non ((x, .ins C_Ratio ["top", "bottom"] [.int (t.fdiv (-((t.natAbs.gcd b.natAbs : Nat) : Int))), .int (b.fdiv (-((t.natAbs.gcd b.natAbs : Nat) : Int)))]) :: m0) := fun h => by
    have q := k
    rw [← (fin2 h).1, ← (fin2 h).2] at q
    exact q
  have k2 : ¬ b < 0 → K .non ((x, .ins C_Ratio ["top", "bottom"] [.int (t.fdiv ((t.natAbs.gcd b.natAbs : Nat) : Int)), .int (b.fdiv ((t.natAbs.gcd b.natAbs : Nat) : Int))]) :: m0) := fun h => by
    have q := k
    rw [← (fin1 h).1, ← (fin1 h).2] at q
    exact q
  walk_at "go"
  all_goals first | exact absurd ‹b = 0› hb0 | exact c1 _ | exact c2 _ | exact k1 ‹_› | exact k2 ‹_›
local macro_rules | `(tactic| walk_at "use") => `(tactic| first | walk_at "useq" | fail)
theorem ok_qadd (T : Txt G C_Ratio C_Span C_ZeroBottom C_Apart C_CarryError) (k_Ratio : Mak G 1 "Ratio" C_Ratio 3 (S_init C_Ratio) []) {f : Addr} {fd : FuncData} (F : L2.Fun G.K "__add__" "Ratio.__add__" s_Ratio___add__ f fd) (b : L2.Binds G.K fd ["self", "other"] []) : Fnx G 3 f 2 (S_qadd C_Ratio) [] := by
  refine fnx_of F sc_Ratio___add__ rfl b .nil rfl (fun cdv A outer s H FF hr tk => ⟨_, (pss_one (ps_ret (pe_mak k_Ratio hr (by decide) tk rfl (pa_cons (pe_bin (os_add hr tk) (pe_bin (os_mul hr tk) (pe_fld (pe_var (i := 0) rfl (Or.inl rfl) nd_self.1 nd_self.2) rfl) (pe_fld (pe_var (i := 1) rfl (Or.inl rfl) nd_other.1 nd_other.2) rfl)) (pe_bin (os_mul hr tk) (pe_fld (pe_var (i := 1) rfl (Or.inl rfl) nd_other.1 nd_other.2) rfl) (pe_fld (pe_var (i := 0) rfl (Or.inl rfl) nd_self.1 nd_self.2) rfl))) (pa_cons (pe_bin (os_mul hr tk) (pe_fld (pe_var (i := 0) rfl (Or.inl rfl) nd_self.1 nd_self.2) rfl) (pe_fld (pe_var (i := 1) rfl (Or.inl rfl) nd_other.1 nd_other.2) rfl)) pa_nil))))), ?_⟩)
  rintro ds m K E - ⟨x, y, rfl, hx, hy, k⟩
  show Ws _ _ _ [some (rq C_Ratio x), some (rq C_Ratio y)] _ _
  dsimp only [cx_G, cx_K]
  have R := T.R_Ratio
  walk_at "go"
  all_goals first | exact hx.1.mulX hy.2 (by decide) | exact hy.1.mulX hx.2 (by decide) | exact hx.2.mulX hy.2 (by decide) | exact Int.mul_ne_zero (den_ne x) (den_ne y) | exact (hx.2.mul hy.2).mono (by decide) | (rw [q_add]; exact k)
theorem ok_qsub (T : Txt G C_Ratio C_Span C_ZeroBottom C_Apart C_CarryError) (k_Ratio : Mak G 1 "Ratio" C_Ratio 3 (S_init C_Ratio) []) {f : Addr} {fd : FuncData} (F : L2.Fun G.K "__sub__" "Ratio.__sub__" s_Ratio___sub__ f fd) (b : L2.Binds G.K fd ["self", "other"] []) : Fnx G 3 f 2 (S_qsub C_Ratio) [] := by
  refine fnx_of F sc_Ratio___sub__ rfl b .nil rfl (fun cdv A outer s H FF hr tk => ⟨_, (pss_one (ps_ret (pe_mak k_Ratio hr (by decide) tk rfl (pa_cons (pe_bin (os_sub hr tk) (pe_bin (os_mul hr tk) (pe_fld (pe_var (i := 0) rfl (Or.inl rfl) nd_self.1 nd_self.2) rfl) (pe_fld (pe_var (i := 1) rfl (Or.inl rfl) nd_other.1 nd_other.2) rfl)) (pe_bin (os_mul hr tk) (pe_fld (pe_var (i := 1) rfl (Or.inl rfl) nd_other.1 nd_other.2) rfl) (pe_fld (pe_var (i := 0) rfl (Or.inl rfl) nd_self.1 nd_self.2) rfl))) (pa_cons (pe_bin (os_mul hr tk) (pe_fld (pe_var (i := 0) rfl (Or.inl rfl) nd_self.1 nd_self.2) rfl) (pe_fld (pe_var (i := 1) rfl (Or.inl rfl) nd_other.1 nd_other.2) rfl)) pa_nil))))), ?_⟩)
  rintro ds m K E - ⟨x, y, rfl, hx, hy, k⟩
  show Ws _ _ _ [some (rq C_Ratio x), some (rq C_Ratio y)] _ _
  dsimp only [cx_G, cx_K]
  have R := T.R_Ratio
  walk_at "go"
  all_goals first | exact hx.1.mulX hy.2 (by decide) | exact hy.1.mulX hx.2 (by decide) | exact hx.2.mulX hy.2 (by decide) | exact Int.mul_ne_zero (den_ne x) (den_ne y) | exact (hx.2.mul hy.2).mono (by decide) | (rw [q_sub]; exact k)
theorem ok_qmul (T : Txt G C_Ratio C_Span C_ZeroBottom C_Apart C_CarryError) (k_Ratio : Mak G 1 "Ratio" C_Ratio 3 (S_init C_Ratio) []) {f : Addr} {fd : FuncData} (F : L2.Fun G.K "__mul__" "Ratio.__mul__" s_Ratio___mul__ f fd) (b : L2.Binds G.K fd ["self", "other"] []) : Fnx G 3 f 2 (S_qmul C_Ratio) [] := by
  refine fnx_of F sc_Ratio___mul__ rfl b .nil rfl (fun cdv A outer s H FF hr tk => ⟨_, (pss_one (ps_ret (pe_mak k_Ratio hr (by decide) tk rfl (pa_cons (pe_bin (os_mul hr tk) (pe_fld (pe_var (i := 0) rfl (Or.inl rfl) nd_self.1 nd_self.2) rfl) (pe_fld (pe_var (i := 1) rfl (Or.inl rfl) nd_other.1 nd_other.2) rfl)) (pa_cons (pe_bin (os_mul hr tk) (pe_fld (pe_var (i := 0) rfl (Or.inl rfl) nd_self.1 nd_self.2) rfl) (pe_fld (pe_var (i := 1) rfl (Or.inl rfl) nd_other.1 nd_other.2) rfl)) pa_nil))))), ?_⟩)
  rintro ds m K E - ⟨x, y, rfl, hx, hy, k⟩
  show Ws _ _ _ [some (rq C_Ratio x), some (rq C_Ratio y)] _ _
  dsimp only [cx_G, cx_K]
  have R := T.R_Ratio
  walk_at "go"
  all_goals first | exact hx.1.mulX hy.1 (by decide) | exact hx.2.mulX hy.2 (by decide) | exact Int.mul_ne_zero (den_ne x) (den_ne y) | exact (hx.2.mul hy.2).mono (by decide) | (rw [q_mul]; exact k)
theorem ok_qneg (T : Txt G C_Ratio C_Span C_ZeroBottom C_Apart C_CarryError) (k_Ratio : Mak G 1 "Ratio" C_Ratio 3 (S_init C_Ratio) []) {f : Addr} {fd : FuncData} (F : L2.Fun G.K "__neg__" "Ratio.__neg__" s_Ratio___neg__ f fd) (b : L2.Binds G.K fd ["self"] []) : Fnx G 3 f 1 (S_qneg C_Ratio) [] := by
  refine fnx_of F sc_Ratio___neg__ rfl b .nil rfl (fun cdv A outer s H FF hr tk => ⟨_, (pss_one (ps_ret (pe_mak k_Ratio hr (by decide) tk rfl (pa_cons (pe_una (us_neg hr tk) (pe_fld (pe_var (i := 0) rfl (Or.inl rfl) nd_self.1 nd_self.2) rfl)) (pa_cons (pe_fld (pe_var (i := 0) rfl (Or.inl rfl) nd_self.1 nd_self.2) rfl) pa_nil))))), ?_⟩)
  rintro ds m K E - ⟨x, rfl, hx, k⟩
  show Ws _ _ _ [some (rq C_Ratio x)] _ _
  dsimp only [cx_G, cx_K]
  have R := T.R_Ratio
  walk_at "go"
  all_goals first | exact den_ne x | exact hx.2.mono (by decide) | (rw [q_neg]; exact k)
theorem ok_qdiv (T : Txt G C_Ratio C_Span C_ZeroBottom C_Apart C_CarryError) (k_Ratio : Mak G 1 "Ratio" C_Ratio 3 (S_init C_Ratio) []) {f : Addr} {fd : FuncData} (F : L2.Fun G.K "divided" "Ratio.divided" s_Ratio_divided f fd) (b : L2.Binds G.K fd ["self", "other"] []) : Fnx G 3 f 2 (S_qdiv C_Ratio) [] := by
  refine fnx_of F sc_Ratio_divided rfl b .nil rfl (fun cdv A outer s H FF hr tk => ⟨_, (pss_cons (ps_if (pt_cm (os_eq hr tk) (pe_fld (pe_var (i := 1) rfl (Or.inl rfl) nd_other.1 nd_other.2) rfl) pe_int (nomark _)) (pss_one (ps_rs0 T.x0_ZeroBottom rfl tk rfl)) pss_nil) (pss_one (ps_ret (pe_mak k_Ratio hr (by decide) tk rfl (pa_cons (pe_bin (os_mul hr tk) (pe_fld (pe_var (i := 0) rfl (Or.inl rfl) nd_self.1 nd_self.2) rfl) (pe_fld (pe_var (i := 1) rfl (Or.inl rfl) nd_other.1 nd_other.2) rfl)) (pa_cons (pe_bin (os_mul hr tk) (pe_fld (pe_var (i := 0) rfl (Or.inl rfl) nd_self.1 nd_self.2) rfl) (pe_fld (pe_var (i := 1) rfl (Or.inl rfl) nd_other.1 nd_other.2) rfl)) pa_nil)))))), ?_⟩)
  rintro ds m K E - ⟨x, y, rfl, hx, hy, n, k⟩
  show Ws _ _ _ [some (rq C_Ratio x), some (rq C_Ratio y)] _ _
  dsimp only [cx_G, cx_K]
  have R := T.R_Ratio
  walk_at "go"
  all_goals first | exact absurd ‹y.num = 0› (num_ne n) | exact hx.1.mulX hy.2 (by decide) | exact hx.2.mulX hy.1 (by decide) | exact Int.mul_ne_zero (den_ne x) (num_ne n) | exact (hx.2.mul hy.1).mono (by decide) | (rw [q_div]; exact k)
theorem ok_qcmp (T : Txt G C_Ratio C_Span C_ZeroBottom C_Apart C_CarryError) {f : Addr} {fd : FuncData} (F : L2.Fun G.K "compare" "Ratio.compare" s_Ratio_compare f fd) (b : L2.Binds G.K fd ["self", "other"] []) : Fnx G 1 f 2 (S_qcmp C_Ratio) [] := by
  refine fnx_of F sc_Ratio_compare rfl b .nil rfl (fun cdv A outer s H FF hr tk => ⟨_, (pss_cons (ps_set (i := 2) sc_Ratio_compare.nd rfl (Or.inl rfl) (pe_bin (os_mul hr tk) (pe_fld (pe_var (i := 0) rfl (Or.inl rfl) nd_self.1 nd_self.2) rfl) (pe_fld (pe_var (i := 1) rfl (Or.inl rfl) nd_other.1 nd_other.2) rfl))) (pss_cons (ps_set (i := 3) sc_Ratio_compare.nd rfl (Or.inl rfl) (pe_bin (os_mul hr tk) (pe_fld (pe_var (i := 1) rfl (Or.inl rfl) nd_other.1 nd_other.2) rfl) (pe_fld (pe_var (i := 0) rfl (Or.inl rfl) nd_self.1 nd_self.2) rfl))) (pss_cons (ps_if (pt_cm os_lt (pe_var (i := 2) rfl (Or.inl rfl) nd_left.1 nd_left.2) (pe_var (i := 3) rfl (Or.inl rfl) nd_right.1 nd_right.2) (nomark _)) (pss_one (ps_ret (pe_una (us_neg hr tk) pe_int))) pss_nil) (pss_cons (ps_if (pt_cm os_gt (pe_var (i := 2) rfl (Or.inl rfl) nd_left.1 nd_left.2) (pe_var (i := 3) rfl (Or.inl rfl) nd_right.1 nd_right.2) (nomark _)) (pss_one (ps_ret pe_int)) pss_nil) (pss_one (ps_ret pe_int)))))), ?_⟩)
  rintro ds m K E - ⟨x, y, rfl, hx, hy, k⟩
  show Ws _ _ _ [some (rq C_Ratio x), some (rq C_Ratio y), none, none] _ _
  dsimp only [cx_G, cx_K]
  have R := T.R_Ratio
  have e : cq x y = if x.num * y.den < y.num * x.den then -1 else if y.num * x.den < x.num * y.den then 1 else 0 := by
    unfold cq
    simp only [lt_q]
  rw [e] at k
  walk_at "go"
  · exact hx.1.mulX hy.2 (by decide)
  · exact hy.1.mulX hx.2 (by decide)
  · rw [if_pos ‹_›] at k
    exact k
  · rw [if_neg ‹_›, if_pos ‹_›] at k
    exact k
  · rw [if_neg ‹_›, if_neg ‹_›] at k
    exact k
theorem ok_qsign (T : Txt G C_Ratio C_Span C_ZeroBottom C_Apart C_CarryError) {f : Addr} {fd : FuncData} (F : L2.Fun G.K "sign" "Ratio.sign" s_Ratio_sign f fd) (b : L2.Binds G.K fd ["self"] []) : Fnx G 1 f 1 (S_qsign C_Ratio) [] := by
  refine fnx_of F sc_Ratio_sign rfl b .nil rfl (fun cdv A outer s H FF hr tk => ⟨_, (pss_cons (ps_if (pt_cm os_lt (pe_fld (pe_var (i := 0) rfl (Or.inl rfl) nd_self.1 nd_self.2) rfl) pe_int (nomark _)) (pss_one (ps_ret (pe_una (us_neg hr tk) pe_int))) pss_nil) (pss_cons (ps_if (pt_cm os_gt (pe_fld (pe_var (i := 0) rfl (Or.inl rfl) nd_self.1 nd_self.2) rfl) pe_int (nomark _)) (pss_one (ps_ret pe_int)) pss_nil) (pss_one (ps_ret pe_int)))), ?_⟩)
  rintro ds m K E - ⟨x, rfl, k⟩
  show Ws _ _ _ [some (rq C_Ratio x)] _ _
  dsimp only [cx_G, cx_K]
  have R := T.R_Ratio
  have e : cq x 0 = if x.num < 0 then -1 else if 0 < x.num then 1 else 0 := by
    unfold cq
    simp only [num_neg_iff, num_pos_iff]
  rw [e] at k
  walk_at "go"
  · rw [if_pos ‹_›] at k
    exact k
  · rw [if_neg ‹_›, if_pos ‹_›] at k
    exact k
  · rw [if_neg ‹_›, if_neg ‹_›] at k
    exact k
local macro_rules | `(tactic| walk_at "use") => `(tactic| first | walk_at "useq" | fail)
theorem ok_lesser (T : Txt G C_Ratio C_Span C_ZeroBottom C_Apart C_CarryError) (m_Ratio_compare : Met G 1 C_Ratio ["top", "bottom"] "compare" 2 (S_qcmp C_Ratio) []) {f : Addr} {fd : FuncData} (F : L2.Fun G.K "lesser" "lesser" s_lesser f fd) (b : L2.Binds G.K fd ["first", "second"] []) : Fnx G 2 f 2 (S_qleast C_Ratio) [] := by
  refine fnx_of F sc_lesser rfl b .nil rfl (fun cdv A outer s H FF hr tk => ⟨_, (pss_cons (ps_if (pt_cm os_lt (pe_mth hr tk (pe_var (i := 1) rfl (Or.inl rfl) nd_second.1 nd_second.2) (pa_cons (pe_var (i := 0) rfl (Or.inl rfl) nd_first.1 nd_first.2) pa_nil)) pe_int (nomark _)) (pss_one (ps_ret (pe_var (i := 1) rfl (Or.inl rfl) nd_second.1 nd_second.2))) pss_nil) (pss_one (ps_ret (pe_var (i := 0) rfl (Or.inl rfl) nd_first.1 nd_first.2)))), ?_⟩)
  rintro ds m K E - ⟨x, y, rfl, hx, hy, k⟩
  show Ws _ _ _ [some (rq C_Ratio x), some (rq C_Ratio y)] _ _
  dsimp only [cx_G, cx_K]
  have R := T.R_Ratio
  have e : qmin x y = if cq y x < 0 then y else x := by
    unfold qmin
    simp only [cq_neg]
  rw [e] at k
  walk_at "go"
  all_goals try assumption
  · rw [if_pos ‹_›] at k
    exact k
  · rw [if_neg ‹_›] at k
    exact k
theorem ok_greater (T : Txt G C_Ratio C_Span C_ZeroBottom C_Apart C_CarryError) (m_Ratio_compare : Met G 1 C_Ratio ["top", "bottom"] "compare" 2 (S_qcmp C_Ratio) []) {f : Addr} {fd : FuncData} (F : L2.Fun G.K "greater" "greater" s_greater f fd) (b : L2.Binds G.K fd ["first", "second"] []) : Fnx G 2 f 2 (S_qgreat C_Ratio) [] := by
  refine fnx_of F sc_greater rfl b .nil rfl (fun cdv A outer s H FF hr tk => ⟨_, (pss_cons (ps_if (pt_cm os_gt (pe_mth hr tk (pe_var (i := 1) rfl (Or.inl rfl) nd_second.1 nd_second.2) (pa_cons (pe_var (i := 0) rfl (Or.inl rfl) nd_first.1 nd_first.2) pa_nil)) pe_int (nomark _)) (pss_one (ps_ret (pe_var (i := 1) rfl (Or.inl rfl) nd_second.1 nd_second.2))) pss_nil) (pss_one (ps_ret (pe_var (i := 0) rfl (Or.inl rfl) nd_first.1 nd_first.2)))), ?_⟩)
  rintro ds m K E - ⟨x, y, rfl, hx, hy, k⟩
  show Ws _ _ _ [some (rq C_Ratio x), some (rq C_Ratio y)] _ _
  dsimp only [cx_G, cx_K]
  have R := T.R_Ratio
  have e : qmax x y = if 0 < cq y x then y else x := by
    unfold qmax
    simp only [cq_pos]
  rw [e] at k
  walk_at "go"
  all_goals try assumption
  · rw [if_pos ‹_›] at k
    exact k
  · rw [if_neg ‹_›] at k
    exact k

local macro_rules | `(tactic| walk_at "use") => `(tactic| first | walk_at "useq" | fail)
theorem ok_sinit (T : Txt G C_Ratio C_Span C_ZeroBottom C_Apart C_CarryError) (m_Ratio_compare : Met G 1 C_Ratio ["top", "bottom"] "compare" 2 (S_qcmp C_Ratio) []) {f : Addr} {fd : FuncData} (F : L2.Fun G.K "__init__" "Span.__init__" s_Span___init__ f fd) (b : L2.Binds G.K fd ["self", "low", "high"] []) : Fnx G 2 f 3 (S_sinit C_Span C_Ratio) [] := by
  refine fnx_of F sc_Span___init__ rfl b .nil rfl (fun cdv A outer s H FF hr tk => ⟨_, (pss_cons (ps_if (pt_cm os_gt (pe_mth hr tk (pe_var (i := 1) rfl (Or.inl rfl) nd_low.1 nd_low.2) (pa_cons (pe_var (i := 2) rfl (Or.inl rfl) nd_high.1 nd_high.2) pa_nil)) pe_int (nomark _)) (pss_one ps_never) pss_nil) (pss_cons (ps_fld (pe_var (i := 0) rfl (Or.inl rfl) nd_self.1 nd_self.2) (pe_var (i := 1) rfl (Or.inl rfl) nd_low.1 nd_low.2) rfl) (pss_one (ps_fld (pe_var (i := 0) rfl (Or.inl rfl) nd_self.1 nd_self.2) (pe_var (i := 2) rfl (Or.inl rfl) nd_high.1 nd_high.2) rfl)))), ?_⟩)
  rintro ds m K E - ⟨x, m0, a, b, rfl, rfl, le, qa, qb, k⟩
  show Ws _ _ _ [some (.ref x), some (rq C_Ratio a), some (rq C_Ratio b)] _ _
  dsimp only [cx_G, cx_K]
  have R := T.R_Ratio
  have S := T.S_Span
  have no : ¬ 0 < cq a b := fun z => Rat.not_le.mpr (cq_pos.mp z) le
  walk_at "go"
  all_goals first | assumption | exact absurd ‹_› no | exact k
theorem ok_sadd (T : Txt G C_Ratio C_Span C_ZeroBottom C_Apart C_CarryError) (k_Span : Mak G 2 "Span" C_Span 3 (S_sinit C_Span C_Ratio) []) (o_Ratio___add__ : Opr G 3 C_Ratio "__add__" 2 (S_qadd C_Ratio)) {f : Addr} {fd : FuncData} (F : L2.Fun G.K "__add__" "Span.__add__" s_Span___add__ f fd) (b : L2.Binds G.K fd ["self", "other"] []) : Fnx G 4 f 2 (S_s2 C_Span C_Ratio addL addH) [] := by
  refine fnx_of F sc_Span___add__ rfl b .nil rfl (fun cdv A outer s H FF hr tk => ⟨_, (pss_one (ps_ret (pe_mak k_Span hr (by decide) tk rfl (pa_cons (pe_bin (os_add hr tk) (pe_fld (pe_var (i := 0) rfl (Or.inl rfl) nd_self.1 nd_self.2) rfl) (pe_fld (pe_var (i := 1) rfl (Or.inl rfl) nd_other.1 nd_other.2) rfl)) (pa_cons (pe_bin (os_add hr tk) (pe_fld (pe_var (i := 0) rfl (Or.inl rfl) nd_self.1 nd_self.2) rfl) (pe_fld (pe_var (i := 1) rfl (Or.inl rfl) nd_other.1 nd_other.2) rfl)) pa_nil))))), ?_⟩)
  rintro ds m K E - ⟨x0, x1, y0, y1, rfl, h, k⟩
  show Ws _ _ _ [some (spn C_Span C_Ratio x0 x1), some (spn C_Span C_Ratio y0 y1)] _ _
  dsimp only [cx_G, cx_K]
  have R := T.R_Ratio
  have S := T.S_Span
  obtain ⟨lx, ly, a0, a1, b0, b1⟩ := h
  have z1 := a0.mono (show 900 ≤ 3900 by decide)
  have z2 := a1.mono (show 900 ≤ 3900 by decide)
  have z3 := b0.mono (show 900 ≤ 3900 by decide)
  have z4 := b1.mono (show 900 ≤ 3900 by decide)
  have q1 : Qb 3900 (x0 + y0) := (qb_add a0 b0).mono (by decide)
  have q2 : Qb 3900 (x1 + y1) := (qb_add a1 b1).mono (by decide)
  have le : x0 + y0 ≤ x1 + y1 := by grind
  have k' : (pF K).rt (spn C_Span C_Ratio (x0 + y0) (x1 + y1)) m := k
  walk_at "go"
  all_goals assumption
theorem ok_ssub (T : Txt G C_Ratio C_Span C_ZeroBottom C_Apart C_CarryError) (k_Span : Mak G 2 "Span" C_Span 3 (S_sinit C_Span C_Ratio) []) (o_Ratio___sub__ : Opr G 3 C_Ratio "__sub__" 2 (S_qsub C_Ratio)) {f : Addr} {fd : FuncData} (F : L2.Fun G.K "__sub__" "Span.__sub__" s_Span___sub__ f fd) (b : L2.Binds G.K fd ["self", "other"] []) : Fnx G 4 f 2 (S_s2 C_Span C_Ratio subL subH) [] := by
  refine fnx_of F sc_Span___sub__ rfl b .nil rfl (fun cdv A outer s H FF hr tk => ⟨_, (pss_one (ps_ret (pe_mak k_Span hr (by decide) tk rfl (pa_cons (pe_bin (os_sub hr tk) (pe_fld (pe_var (i := 0) rfl (Or.inl rfl) nd_self.1 nd_self.2) rfl) (pe_fld (pe_var (i := 1) rfl (Or.inl rfl) nd_other.1 nd_other.2) rfl)) (pa_cons (pe_bin (os_sub hr tk) (pe_fld (pe_var (i := 0) rfl (Or.inl rfl) nd_self.1 nd_self.2) rfl) (pe_fld (pe_var (i := 1) rfl (Or.inl rfl) nd_other.1 nd_other.2) rfl)) pa_nil))))), ?_⟩)
  rintro ds m K E - ⟨x0, x1, y0, y1, rfl, h, k⟩
  show Ws _ _ _ [some (spn C_Span C_Ratio x0 x1), some (spn C_Span C_Ratio y0 y1)] _ _
  dsimp only [cx_G, cx_K]
  have R := T.R_Ratio
  have S := T.S_Span
  obtain ⟨lx, ly, a0, a1, b0, b1⟩ := h
  have z1 := a0.mono (show 900 ≤ 3900 by decide)
  have z2 := a1.mono (show 900 ≤ 3900 by decide)
  have z3 := b0.mono (show 900 ≤ 3900 by decide)
  have z4 := b1.mono (show 900 ≤ 3900 by decide)
  have q1 : Qb 3900 (x0 - y1) := (qb_sub a0 b1).mono (by decide)
  have q2 : Qb 3900 (x1 - y0) := (qb_sub a1 b0).mono (by decide)
  have le : x0 - y1 ≤ x1 - y0 := by grind
  have k' : (pF K).rt (spn C_Span C_Ratio (x0 - y1) (x1 - y0)) m := k
  walk_at "go"
  all_goals assumption
theorem ok_smul (T : Txt G C_Ratio C_Span C_ZeroBottom C_Apart C_CarryError) (k_Span : Mak G 2 "Span" C_Span 3 (S_sinit C_Span C_Ratio) []) (o_Ratio___mul__ : Opr G 3 C_Ratio "__mul__" 2 (S_qmul C_Ratio)) (c_lesser : Cal G 2 "lesser" 2 (S_qleast C_Ratio) []) (c_greater : Cal G 2 "greater" 2 (S_qgreat C_Ratio) []) {f : Addr} {fd : FuncData} (F : L2.Fun G.K "__mul__" "Span.__mul__" s_Span___mul__ f fd) (b : L2.Binds G.K fd ["self", "other"] []) : Fnx G 4 f 2 (S_s2 C_Span C_Ratio mulL mulH) [] := by
  refine fnx_of F sc_Span___mul__ rfl b .nil rfl (fun cdv A outer s H FF hr tk => ⟨_, (pss_cons (ps_par (i := 2) (j := 3) rfl sc_Span___mul__.nd rfl rfl (by decide) rfl rfl (pa_cons (pe_bin (os_mul hr tk) (pe_fld (pe_var (i := 0) rfl (Or.inl rfl) nd_self.1 nd_self.2) rfl) (pe_fld (pe_var (i := 1) rfl (Or.inl rfl) nd_other.1 nd_other.2) rfl)) (pa_cons (pe_bin (os_mul hr tk) (pe_fld (pe_var (i := 0) rfl (Or.inl rfl) nd_self.1 nd_self.2) rfl) (pe_fld (pe_var (i := 1) rfl (Or.inl rfl) nd_other.1 nd_other.2) rfl)) pa_nil)) (by rfl)) (pss_cons (ps_par (i := 4) (j := 5) rfl sc_Span___mul__.nd rfl rfl (by decide) rfl rfl (pa_cons (pe_bin (os_mul hr tk) (pe_fld (pe_var (i := 0) rfl (Or.inl rfl) nd_self.1 nd_self.2) rfl) (pe_fld (pe_var (i := 1) rfl (Or.inl rfl) nd_other.1 nd_other.2) rfl)) (pa_cons (pe_bin (os_mul hr tk) (pe_fld (pe_var (i := 0) rfl (Or.inl rfl) nd_self.1 nd_self.2) rfl) (pe_fld (pe_var (i := 1) rfl (Or.inl rfl) nd_other.1 nd_other.2) rfl)) pa_nil)) (by rfl)) (pss_cons (ps_set (i := 6) sc_Span___mul__.nd rfl (Or.inl rfl) (pe_cl c_lesser hr (by decide) tk rfl (pa_cons (pe_cl c_lesser hr (by decide) tk rfl (pa_cons (pe_var (i := 2) rfl (Or.inl rfl) nd_first.1 nd_first.2) (pa_cons (pe_var (i := 3) rfl (Or.inl rfl) nd_second.1 nd_second.2) pa_nil))) (pa_cons (pe_cl c_lesser hr (by decide) tk rfl (pa_cons (pe_var (i := 4) rfl (Or.inl rfl) nd_third.1 nd_third.2) (pa_cons (pe_var (i := 5) rfl (Or.inl rfl) nd_fourth.1 nd_fourth.2) pa_nil))) pa_nil)))) (pss_cons (ps_set (i := 7) sc_Span___mul__.nd rfl (Or.inl rfl) (pe_cl c_greater hr (by decide) tk rfl (pa_cons (pe_cl c_greater hr (by decide) tk rfl (pa_cons (pe_var (i := 2) rfl (Or.inl rfl) nd_first.1 nd_first.2) (pa_cons (pe_var (i := 3) rfl (Or.inl rfl) nd_second.1 nd_second.2) pa_nil))) (pa_cons (pe_cl c_greater hr (by decide) tk rfl (pa_cons (pe_var (i := 4) rfl (Or.inl rfl) nd_third.1 nd_third.2) (pa_cons (pe_var (i := 5) rfl (Or.inl rfl) nd_fourth.1 nd_fourth.2) pa_nil))) pa_nil)))) (pss_one (ps_ret (pe_mak k_Span hr (by decide) tk rfl (pa_cons (pe_var (i := 6) rfl (Or.inl rfl) nd_low.1 nd_low.2) (pa_cons (pe_var (i := 7) rfl (Or.inl rfl) nd_high.1 nd_high.2) pa_nil))))))))), ?_⟩)
  rintro ds m K E - ⟨x0, x1, y0, y1, rfl, h, k⟩
  show Ws _ _ _ [some (spn C_Span C_Ratio x0 x1), some (spn C_Span C_Ratio y0 y1), none, none, none, none, none, none] _ _
  dsimp only [cx_G, cx_K]
  have R := T.R_Ratio
  have S := T.S_Span
  obtain ⟨lx, ly, a0, a1, b0, b1⟩ := h
  have q1 : Qb 3900 (x0 * y0) := (qb_mul a0 b0).mono (by decide)
  have q2 : Qb 3900 (x0 * y1) := (qb_mul a0 b1).mono (by decide)
  have q3 : Qb 3900 (x1 * y0) := (qb_mul a1 b0).mono (by decide)
  have q4 : Qb 3900 (x1 * y1) := (qb_mul a1 b1).mono (by decide)
  have z1 := a0.mono (show 900 ≤ 3900 by decide)
  have z2 := a1.mono (show 900 ≤ 3900 by decide)
  have z3 := b0.mono (show 900 ≤ 3900 by decide)
  have z4 := b1.mono (show 900 ≤ 3900 by decide)
  have q5 := qmin_qb q1 q2
  have q6 := qmin_qb q3 q4
  have q7 := qmax_qb q1 q2
  have q8 := qmax_qb q3 q4
  have q9 := qmin_qb q5 q6
  have q10 := qmax_qb q7 q8
  have k' : (pF K).rt (spn C_Span C_Ratio (qmin (qmin (x0 * y0) (x0 * y1)) (qmin (x1 * y0) (x1 * y1))) (qmax (qmax (x0 * y0) (x0 * y1)) (qmax (x1 * y0) (x1 * y1)))) m := k
  walk_at "go"
  all_goals first | assumption | exact q4_le
theorem ok_sneg (T : Txt G C_Ratio C_Span C_ZeroBottom C_Apart C_CarryError) (k_Span : Mak G 2 "Span" C_Span 3 (S_sinit C_Span C_Ratio) []) (o_Ratio___neg__ : Opr G 3 C_Ratio "__neg__" 1 (S_qneg C_Ratio)) {f : Addr} {fd : FuncData} (F : L2.Fun G.K "__neg__" "Span.__neg__" s_Span___neg__ f fd) (b : L2.Binds G.K fd ["self"] []) : Fnx G 4 f 1 (S_sneg C_Span C_Ratio) [] := by
  refine fnx_of F sc_Span___neg__ rfl b .nil rfl (fun cdv A outer s H FF hr tk => ⟨_, (pss_one (ps_ret (pe_mak k_Span hr (by decide) tk rfl (pa_cons (pe_una (us_neg hr tk) (pe_fld (pe_var (i := 0) rfl (Or.inl rfl) nd_self.1 nd_self.2) rfl)) (pa_cons (pe_una (us_neg hr tk) (pe_fld (pe_var (i := 0) rfl (Or.inl rfl) nd_self.1 nd_self.2) rfl)) pa_nil))))), ?_⟩)
  rintro ds m K E - ⟨x0, x1, rfl, h, a0, a1, k⟩
  show Ws _ _ _ [some (spn C_Span C_Ratio x0 x1)] _ _
  dsimp only [cx_G, cx_K]
  have R := T.R_Ratio
  have S := T.S_Span
  have z1 := a0.mono (show 900 ≤ 3900 by decide)
  have z2 := a1.mono (show 900 ≤ 3900 by decide)
  have q1 := qb_neg z1
  have q2 := qb_neg z2
  have le : -x1 ≤ -x0 := by grind
  walk_at "go"
  all_goals assumption
theorem ok_sleast (T : Txt G C_Ratio C_Span C_ZeroBottom C_Apart C_CarryError) (k_Span : Mak G 2 "Span" C_Span 3 (S_sinit C_Span C_Ratio) []) (c_lesser : Cal G 2 "lesser" 2 (S_qleast C_Ratio) []) {f : Addr} {fd : FuncData} (F : L2.Fun G.K "least" "Span.least" s_Span_least f fd) (b : L2.Binds G.K fd ["self", "other"] []) : Fnx G 4 f 2 (S_s2 C_Span C_Ratio leL leH) [] := by
  refine fnx_of F sc_Span_least rfl b .nil rfl (fun cdv A outer s H FF hr tk => ⟨_, (pss_one (ps_ret (pe_mak k_Span hr (by decide) tk rfl (pa_cons (pe_cl c_lesser hr (by decide) tk rfl (pa_cons (pe_fld (pe_var (i := 0) rfl (Or.inl rfl) nd_self.1 nd_self.2) rfl) (pa_cons (pe_fld (pe_var (i := 1) rfl (Or.inl rfl) nd_other.1 nd_other.2) rfl) pa_nil))) (pa_cons (pe_cl c_lesser hr (by decide) tk rfl (pa_cons (pe_fld (pe_var (i := 0) rfl (Or.inl rfl) nd_self.1 nd_self.2) rfl) (pa_cons (pe_fld (pe_var (i := 1) rfl (Or.inl rfl) nd_other.1 nd_other.2) rfl) pa_nil))) pa_nil))))), ?_⟩)
  rintro ds m K E - ⟨x0, x1, y0, y1, rfl, h, k⟩
  show Ws _ _ _ [some (spn C_Span C_Ratio x0 x1), some (spn C_Span C_Ratio y0 y1)] _ _
  dsimp only [cx_G, cx_K]
  have R := T.R_Ratio
  have S := T.S_Span
  obtain ⟨lx, ly, a0, a1, b0, b1⟩ := h
  have z1 := a0.mono (show 900 ≤ 3900 by decide)
  have z2 := a1.mono (show 900 ≤ 3900 by decide)
  have z3 := b0.mono (show 900 ≤ 3900 by decide)
  have z4 := b1.mono (show 900 ≤ 3900 by decide)
  have q1 := qmin_qb z1 z3
  have q2 := qmin_qb z2 z4
  have le := qmin_le lx ly
  have k' : (pF K).rt (spn C_Span C_Ratio (qmin x0 y0) (qmin x1 y1)) m := k
  walk_at "go"
  all_goals assumption
theorem ok_sgreat (T : Txt G C_Ratio C_Span C_ZeroBottom C_Apart C_CarryError) (k_Span : Mak G 2 "Span" C_Span 3 (S_sinit C_Span C_Ratio) []) (c_greater : Cal G 2 "greater" 2 (S_qgreat C_Ratio) []) {f : Addr} {fd : FuncData} (F : L2.Fun G.K "greatest" "Span.greatest" s_Span_greatest f fd) (b : L2.Binds G.K fd ["self", "other"] []) : Fnx G 4 f 2 (S_s2 C_Span C_Ratio grL grH) [] := by
  refine fnx_of F sc_Span_greatest rfl b .nil rfl (fun cdv A outer s H FF hr tk => ⟨_, (pss_one (ps_ret (pe_mak k_Span hr (by decide) tk rfl (pa_cons (pe_cl c_greater hr (by decide) tk rfl (pa_cons (pe_fld (pe_var (i := 0) rfl (Or.inl rfl) nd_self.1 nd_self.2) rfl) (pa_cons (pe_fld (pe_var (i := 1) rfl (Or.inl rfl) nd_other.1 nd_other.2) rfl) pa_nil))) (pa_cons (pe_cl c_greater hr (by decide) tk rfl (pa_cons (pe_fld (pe_var (i := 0) rfl (Or.inl rfl) nd_self.1 nd_self.2) rfl) (pa_cons (pe_fld (pe_var (i := 1) rfl (Or.inl rfl) nd_other.1 nd_other.2) rfl) pa_nil))) pa_nil))))), ?_⟩)
  rintro ds m K E - ⟨x0, x1, y0, y1, rfl, h, k⟩
  show Ws _ _ _ [some (spn C_Span C_Ratio x0 x1), some (spn C_Span C_Ratio y0 y1)] _ _
  dsimp only [cx_G, cx_K]
  have R := T.R_Ratio
  have S := T.S_Span
  obtain ⟨lx, ly, a0, a1, b0, b1⟩ := h
  have z1 := a0.mono (show 900 ≤ 3900 by decide)
  have z2 := a1.mono (show 900 ≤ 3900 by decide)
  have z3 := b0.mono (show 900 ≤ 3900 by decide)
  have z4 := b1.mono (show 900 ≤ 3900 by decide)
  have q1 := qmax_qb z1 z3
  have q2 := qmax_qb z2 z4
  have le := qmax_le lx ly
  have k' : (pF K).rt (spn C_Span C_Ratio (qmax x0 y0) (qmax x1 y1)) m := k
  walk_at "go"
  all_goals assumption
theorem ok_scont (T : Txt G C_Ratio C_Span C_ZeroBottom C_Apart C_CarryError) (m_Ratio_compare : Met G 1 C_Ratio ["top", "bottom"] "compare" 2 (S_qcmp C_Ratio) []) {f : Addr} {fd : FuncData} (F : L2.Fun G.K "__contains__" "Span.__contains__" s_Span___contains__ f fd) (b : L2.Binds G.K fd ["self", "ratio"] []) : Fnx G 2 f 2 (S_scont C_Span C_Ratio) [] := by
  refine fnx_of F sc_Span___contains__ rfl b .nil rfl (fun cdv A outer s H FF hr tk => ⟨_, (pss_one (ps_ret (pe_and (pe_cm os_le (pe_mth hr tk (pe_fld (pe_var (i := 0) rfl (Or.inl rfl) nd_self.1 nd_self.2) rfl) (pa_cons (pe_var (i := 1) rfl (Or.inl rfl) nd_ratio.1 nd_ratio.2) pa_nil)) pe_int (nomark _)) (pe_one (pe_cm os_le (pe_mth hr tk (pe_var (i := 1) rfl (Or.inl rfl) nd_ratio.1 nd_ratio.2) (pa_cons (pe_fld (pe_var (i := 0) rfl (Or.inl rfl) nd_self.1 nd_self.2) rfl) pa_nil)) pe_int (nomark _)))))), ?_⟩)
  rintro ds m K E - ⟨x0, x1, x, rfl, a0, a1, a2, k⟩
  show Ws _ _ _ [some (spn C_Span C_Ratio x0 x1), some (rq C_Ratio x)] _ _
  dsimp only [cx_G, cx_K]
  have R := T.R_Ratio
  have S := T.S_Span
  have e : decide (x0 ≤ x ∧ x ≤ x1) = (decide (cq x0 x ≤ 0) && decide (cq x x1 ≤ 0)) := by
    rw [Bool.decide_and]
    simp only [cq_le]
  rw [e] at k
  walk_at "go"
  all_goals try assumption
  · rw [decide_eq_true ‹_›, Bool.true_and] at k
    exact k
  · rw [decide_eq_false (by omega), Bool.false_and] at k
    exact k
theorem ok_sdiv (T : Txt G C_Ratio C_Span C_ZeroBottom C_Apart C_CarryError) (k1_Ratio : Mak G 1 "Ratio" C_Ratio 3 (S_init C_Ratio) [.int 1]) (k_Span : Mak G 2 "Span" C_Span 3 (S_sinit C_Span C_Ratio) []) (m_Ratio_sign : Met G 1 C_Ratio ["top", "bottom"] "sign" 1 (S_qsign C_Ratio) []) (m_Ratio_divided : Met G 3 C_Ratio ["top", "bottom"] "divided" 2 (S_qdiv C_Ratio) []) (o_Span___mul__ : Opr G 4 C_Span "__mul__" 2 (S_s2 C_Span C_Ratio mulL mulH)) {f : Addr} {fd : FuncData} (F : L2.Fun G.K "divided" "Span.divided" s_Span_divided f fd) (b : L2.Binds G.K fd ["self", "other"] []) : Fnx G 5 f 2 (S_sdiv C_Span C_Ratio C_ZeroBottom) [] := by
  have k_Ratio := k1_Ratio
  refine fnx_of F sc_Span_divided rfl b .nil rfl (fun cdv A outer s H FF hr tk => ⟨_, (pss_cons (ps_if (PW.pt (pw_and (pt_cm os_le (pe_mth0 hr tk (pe_fld (pe_var (i := 1) rfl (Or.inl rfl) nd_other.1 nd_other.2) rfl)) pe_int (nomark _)) (pw_and1 (pt_cm os_ge (pe_mth0 hr tk (pe_fld (pe_var (i := 1) rfl (Or.inl rfl) nd_other.1 nd_other.2) rfl)) pe_int (nomark _))))) (pss_one (ps_rs0 T.x0_ZeroBottom rfl tk rfl)) pss_nil) (pss_cons (ps_set (i := 2) sc_Span_divided.nd rfl (Or.inl rfl) (pe_mak k_Ratio hr (by decide) tk rfl (pa_cons pe_int pa_nil))) (pss_one (ps_ret (pe_bin (os_mul hr tk) (pe_var (i := 0) rfl (Or.inl rfl) nd_self.1 nd_self.2) (pe_mak k_Span hr (by decide) tk rfl (pa_cons (pe_mth hr tk (pe_var (i := 2) rfl (Or.inl rfl) nd_one.1 nd_one.2) (pa_cons (pe_fld (pe_var (i := 1) rfl (Or.inl rfl) nd_other.1 nd_other.2) rfl) pa_nil)) (pa_cons (pe_mth hr tk (pe_var (i := 2) rfl (Or.inl rfl) nd_one.1 nd_one.2) (pa_cons (pe_fld (pe_var (i := 1) rfl (Or.inl rfl) nd_other.1 nd_other.2) rfl) pa_nil)) pa_nil)))))))), ?_⟩)
  rintro ds m K E - ⟨x0, x1, y0, y1, rfl, h, k⟩
  show Ws _ _ _ [some (spn C_Span C_Ratio x0 x1), some (spn C_Span C_Ratio y0 y1), none] _ _
  dsimp only [cx_G, cx_K]
  have R := T.R_Ratio
  have S := T.S_Span
  obtain ⟨lx, ly, a0, a1, b0, b1⟩ := h
  have bad : cq y0 0 ≤ 0 → 0 ≤ cq y1 0 → E ⟨C_ZeroBottom, [], []⟩ m := fun z1 z2 => by
    rcases k with ⟨_, _, k⟩ | ⟨k, _⟩
    · exact k
    · rw [cq_le] at z1
      rw [cq_ge] at z2
      grind
  have go : ¬ (cq y0 0 ≤ 0 ∧ 0 ≤ cq y1 0) → (0 < y0 ∨ y1 < 0) ∧ K (spn C_Span C_Ratio (divL x0 x1 y0 y1) (divH x0 x1 y0 y1)) m := fun z => by
    rcases k with ⟨k1, k2, _⟩ | k
    · exact absurd ⟨cq_le.mpr k1, cq_ge.mpr k2⟩ z
    · exact k
  have ne : (0 < y0 ∨ y1 < 0) → y0 ≠ 0 ∧ y1 ≠ 0 := fun z => by grind
  have z3 := b0.mono (show 900 ≤ 3900 by decide)
  have z4 := b1.mono (show 900 ≤ 3900 by decide)
  have one : Qb 3900 ((1 : Int) : Rat) := qb_one
  have two : (0 < y0 ∨ y1 < 0) → Two x0 x1 (((1 : Int) : Rat) / y1) (((1 : Int) : Rat) / y0) := fun z => ⟨lx, inv_anti ly z, a0, a1, qb_inv b1 (ne z).2, qb_inv b0 (ne z).1⟩
  have e : ∀ h : ¬ (cq y0 0 ≤ 0 ∧ 0 ≤ cq y1 0), (pF K).rt (spn C_Span C_Ratio (mulL x0 x1 (((1 : Int) : Rat) / y1) (((1 : Int) : Rat) / y0)) (mulH x0 x1 (((1 : Int) : Rat) / y1) (((1 : Int) : Rat) / y0))) m := fun h => (go h).2
  have n1 : ¬ cq y0 0 ≤ 0 → ¬ (cq y0 0 ≤ 0 ∧ 0 ≤ cq y1 0) := fun h z => h z.1
  have n2 : ¬ 0 ≤ cq y1 0 → ¬ (cq y0 0 ≤ 0 ∧ 0 ≤ cq y1 0) := fun h z => h z.2
  walk_at "go"
  · exact bad ‹_› ‹_›
  all_goals
    have n : ¬ (cq y0 0 ≤ 0 ∧ 0 ≤ cq y1 0) := by first | exact n1 ‹_› | exact n2 ‹_›
    have p := (go n).1
    have t := two p
    first
      | assumption
      | exact (ne p).1
      | exact (ne p).2
      | exact t.ly
      | exact t.b0.mono (by decide)
      | exact t.b1.mono (by decide)
      | exact e n

end
end K05
set_option Elab.async false
set_option linter.all false
set_option maxRecDepth 100000
set_option maxHeartbeats 4000000
namespace K05
open PySem PySem.Spec L2 DL
open PyProof.Rows hiding St
/-! one step, by the goal's head -/
local macro_rules | `(tactic| walk_at "sWe") => `(tactic| first
  | ((with_reducible refine we_var (d := ?d) ?hv ?hk); case hv => rfl)
  | (with_reducible first
    | refine we_cint ?_ | refine we_2 ?_ | refine we_fldF ?_ | refine we_cl0 ?_ | refine we_tup ?_ | refine we_1 ?_ | refine we_c2 ?_ | refine we_cbl ?_ | refine we_cnon ?_ | refine we_cty ?_ | refine we_cref ?_
    | refine we_op ?_ | refine we_andV ?_ | refine we_orV ?_ | refine we_notV ?_ | refine we_3 ?_ | refine we_ifx ?_ | refine we_clH ?_)
  | walk_at "useWe")
local macro_rules | `(tactic| walk_at "sWt") => `(tactic| with_reducible first | refine wt_test ?_ | refine wt_tr ?_ | refine wt_and ?_ | refine wt_or ?_ | refine wt_not ?_)
local macro_rules | `(tactic| walk_at "sWa") => `(tactic| with_reducible first | refine wa_nil ?_ | refine wa_cons ?_)
local macro_rules | `(tactic| walk_at "sW2") => `(tactic| first
  | (with_reducible first
    | refine w2_add ?_ | refine w2_sub ?_ | refine w2_mul ⟨?_, ?_⟩ | refine w2_fdiv ⟨?_, ?_⟩ | refine w2_mod ⟨?_, ?_⟩ | refine w2_pow ⟨?_, ?_⟩ | refine w2_eqI ?_ | refine w2_neI ?_ | refine w2_lt ?_ | refine w2_le ?_ | refine w2_gt ?_ | refine w2_ge ?_)
  | ((with_reducible refine w2_ixT (d := ?d) ⟨?hv, ?hk⟩); case hv => rfl)
  | ((with_reducible refine w2_ixL (d := ?d) ⟨?hv, ?hk⟩); case hv => rfl)
  | ((with_reducible refine w2_ixM (d := ?d) .head ⟨?hv, ?hk⟩); case hv => rfl)
  | (with_reducible first
    | refine w2_eqIH ?_ | refine w2_neIH ?_ | refine w2_mulH ⟨?_, ?_⟩ | refine w2_addH ?_ | refine w2_subH ?_ | refine w2_isN ?_ | refine w2_notN ?_ | refine w2_isB ?_ | refine w2_notB ?_)
  | walk_at "useW2")
local macro_rules | `(tactic| walk_at "sW1") => `(tactic| first | (with_reducible refine w1_neg ?_) | walk_at "useW2")
local macro_rules | `(tactic| walk_at "sWc") => `(tactic| first
  | (with_reducible first | refine wc_int ?_ | refine wc_abs ?_ | refine wc_min ?_ | refine wc_gcd ?_ | refine wc_isiT .int kit_ii ?_ | refine wc_isiT .int kit_ib ?_ | refine wc_len .lst ?_ | refine wc_len .tup ?_)
  | walk_at "useWc")
local macro_rules | `(tactic| walk_at "sWg") => `(tactic| with_reducible first | refine wg_name ?_ | refine wg_subM ?_ | refine wg_tup rfl ?_)
local macro_rules | `(tactic| walk_at "sWgs") => `(tactic| with_reducible first | refine wgs_cons ?_ | refine wgs_nil ?_)
local macro_rules | `(tactic| walk_at "sWs") => `(tactic| first
  | (with_reducible first | refine ws_seq ?_ | refine ws_ret ?_ | refine ws_asg ?_ | refine ws_next ?_ | refine ws_drop ?_ | refine ws_par ?_ | refine ws_par3 ?_ | refine ws_fldN ?_ | refine ws_brk ?_ | refine ws_cont ?_)
  | walk_at "useWs")
local macro_rules | `(tactic| walk_at "sX") => `(tactic| first
  | (with_reducible refine ⟨_, rfl, ?_⟩)
  | (with_reducible refine fld_top (by assumption) ?_) | (with_reducible refine fld_bottom (by assumption) ?_)
  | (with_reducible refine ⟨_, .bl, ?_⟩)
  | ((with_reducible refine ⟨?h, ?_⟩); case h => rfl)
  | (with_reducible refine ⟨_, _, rfl, ?_⟩)
  | (with_reducible refine ⟨_, _, _, rfl, ?_⟩)
  | walk_at "use"
  | (with_reducible refine setN_top (by assumption) ?_) | (with_reducible refine setN_bottom (by assumption) ?_)
  | ((with_reducible refine ⟨_, _, _, ?j, _, rfl, rfl, .head, ?h, .head, ?_⟩); case h => rfl)
  | fail)
local macro_rules | `(tactic| walk_at "br") => `(tactic| ((with_reducible refine ⟨fun hb => ?_, fun hb => ?_⟩) <;> (try simp only [decide_eq_true_eq, decide_eq_false_iff_not, Bool.not_eq_true', Bool.not_eq_false', Bool.and_eq_true, Bool.or_eq_true, reduceCtorEq, List.length_map, Bool.not_true, Bool.not_false, isNon] at hb)))
local macro_rules | `(tactic| walk_at "wif") => `(tactic| (with_reducible refine ws_if ?_))
local macro_rules | `(tactic| walk_at "st") => `(tactic| first
  | ((with_reducible show We _ _ _ _ _ _); walk_at "sWe")
  | ((with_reducible show W2 _ _ _ _ _ _ _ _); walk_at "sW2")
  | ((with_reducible show Wa _ _ _ _ _ _); walk_at "sWa")
  | ((with_reducible show Ws _ _ _ _ _ _); walk_at "sWs")
  | ((with_reducible show Wt _ _ _ _ _ _); walk_at "sWt")
  | ((with_reducible show Wc _ _ _ _ _ _ _); walk_at "sWc")
  | ((with_reducible show Wg _ _ _ _ _ _ _); walk_at "sWg")
  | ((with_reducible show W1 _ _ _ _ _ _ _); walk_at "sW1")
  | ((with_reducible show Wgs _ _ _ _ _ _ _); walk_at "sWgs")
  | walk_at "sX" | fail)
local macro_rules | `(tactic| walk_at "dl") => `(tactic| repeat (first | walk_at "st" | walk_at "wif" | fail))
local macro_rules | `(tactic| walk_at "gn") => `(tactic| repeat' (first | walk_at "st" | walk_at "br" | fail))
local macro_rules | `(tactic| walk_at "go") => `(tactic| repeat' (first | walk_at "st" | walk_at "wif" | walk_at "br" | fail))
local macro_rules | `(tactic| walk_at "useWe") => `(tactic| first | (with_reducible refine we_mt ?_) | (with_reducible refine we_ratQ ?_) | (with_reducible refine we_ratQ1 ?_) | (with_reducible refine we_spn ?_) | fail)
local macro_rules | `(tactic| walk_at "useW2") => `(tactic| first
  | (with_reducible refine w2_addO (by assumption) (by decide) .fixed .fixed ?_) | (with_reducible refine w2_subO (by assumption) (by decide) .fixed .fixed ?_) | (with_reducible refine w2_mulO (by assumption) (by decide) .fixed .fixed ?_) | (with_reducible refine w1_negO (by assumption) (by decide) .fixed ?_) | (with_reducible refine w2_inO (by assumption) (by decide) .fixed ?_) | fail)
local macro_rules | `(tactic| walk_at "useWc") => `(tactic| fail)
local macro_rules | `(tactic| walk_at "useWs") => `(tactic| first | (with_reducible refine ws_rs0 ?_) | (with_reducible refine ws_rs ?_) | fail)
local macro_rules | `(tactic| walk_at "use") => `(tactic| fail)

/-! Ratio and Span by numbers: their promises used -/
local macro_rules | `(tactic| walk_at "useq") => `(tactic| first
  | (with_reducible refine fld_low (by assumption) ?_) | (with_reducible refine fld_high (by assumption) ?_)
  | (with_reducible refine mt_of0 (by assumption) (by decide) ?_) | (with_reducible refine RatQ.mk ?_ ?_ ?_)
  | (with_reducible refine use_qcmp ?_ ?_ ?_) | (with_reducible refine use_qsign ?_)
  | (with_reducible refine use_qleast ?_ ?_ ?_) | (with_reducible refine use_qgreat ?_ ?_ ?_)
  | (with_reducible refine use_qadd ?_ ?_ ?_) | (with_reducible refine use_qsub ?_ ?_ ?_) | (with_reducible refine use_qmul ?_ ?_ ?_) | (with_reducible refine use_qdiv ?_ ?_ ?_ ?_) | (with_reducible refine use_qneg ?_ ?_)
  | (with_reducible refine SpnA.mk ?_ ?_ ?_ ?_)
  | (with_reducible refine use_s2 ?_ ?_) | (with_reducible refine use_sneg ?_ ?_ ?_ ?_) | (with_reducible refine use_scont ?_ ?_ ?_ ?_) | (with_reducible refine use_sdiv ?_ ?_ ?_)
  | (with_reducible refine setN_low (by assumption) ?_) | (with_reducible refine setN_high (by assumption) ?_)
  | fail)

/-- a pair that stands for a fraction, of a size -/
structure Fr (n : Nat) (t b : Int) : Prop where
  pos : 0 < b
  bt : Bd n t
  bb : Bd n b
theorem Fr.mono {a b : Nat} {x y : Int} (h : Fr a x y) (l : a ≤ b) : Fr b x y := ⟨h.pos, h.bt.mono l, h.bb.mono l⟩
theorem Fr.plus {n k : Nat} {a b c d : Int} (h : Fr n a b) (q : Fr k c d) : Fr (n + k + 1) (a * d + c * b) (b * d) :=
  ⟨Int.mul_pos h.pos q.pos, (h.bt.mul q.bb).add ((q.bt.mul h.bb).mono (Nat.le_of_eq (Nat.add_comm _ _))), (h.bb.mul q.bb).mono (by omega)⟩
theorem Fr.mul {n k : Nat} {a b c d : Int} (h : Fr n a b) (q : Fr k c d) : Fr (n + k) (a * c) (b * d) :=
  ⟨Int.mul_pos h.pos q.pos, h.bt.mul q.bt, h.bb.mul q.bb⟩
theorem bd_nat {n : Nat} {a : Int} (h : Bd n a) : Bd n (a.natAbs : Int) := by
  unfold Bd at *
  rwa [Int.natAbs_natCast]
theorem Fr.abs {n : Nat} {a b : Int} (h : Fr n a b) : Fr n (a.natAbs : Int) b := ⟨h.pos, bd_nat h.bt, h.bb⟩
theorem Fr.neg {n : Nat} {a b : Int} (h : Fr n a b) : Fr n (-a) b := ⟨h.pos, h.bt.neg, h.bb⟩
theorem fr_small {a b : Int} (h : a.natAbs ≤ 1000000000000) (k : 0 < b) (l : b ≤ 1000000000000) : Fr 40 a b := ⟨k, by unfold Bd; omega, by unfold Bd; omega⟩
theorem Fr.qb {n : Nat} {a b : Int} (h : Fr n a b) : Qb n (dv a b) := qb_of (by have := h.pos; omega) h.bt h.bb
theorem fr_zero : Fr 40 0 1 := ⟨by decide, bd_lit (by decide), bd_lit (by decide)⟩
theorem abs_nn {a b : Int} (h : 0 < b) : 0 ≤ dv (a.natAbs : Int) b := (dv_nonneg h).mpr (by omega)
theorem neg_np {a b : Int} (h : 0 < b) : dv (-(a.natAbs : Int)) b ≤ 0 := (dv_nonpos h).mpr (by omega)
section
variable {G : Gx} {C_Ratio C_Span C_ZeroBottom C_Apart C_CarryError : Addr}
def S_less : SpecD := fun ds m K _ => ∃ a b c d, ds = [.tup [.int a, .int b], .tup [.int c, .int d]] ∧ Fr 3900 a b ∧ Fr 3900 c d ∧ K (.bl (decide (dv a b < dv c d))) m
theorem use_less {a b c d : Int} {m : Mu} {K : KT} {E : Ex → Mu → Prop} (h1 : Fr 3900 a b) (h2 : Fr 3900 c d) (h : K (.bl (decide (dv a b < dv c d))) m) : S_less [.tup [.int a, .int b], .tup [.int c, .int d]] m K E := ⟨a, b, c, d, rfl, h1, h2, h⟩
theorem ok_less (T : Txt G C_Ratio C_Span C_ZeroBottom C_Apart C_CarryError) {f : Addr} {fd : FuncData} (F : L2.Fun G.K "_law_less" "_law_less" s__law_less f fd) (b : L2.Binds G.K fd ["p", "q"] []) : Fnx G 1 f 2 S_less [] := by
  refine fnx_of F sc__law_less rfl b .nil rfl (fun cdv A outer s H FF hr tk => ⟨_, (pss_one (ps_ret (pe_cm os_lt (pe_bin (os_mul hr tk) (pe_ix ix_seq (pe_var (i := 0) rfl (Or.inl rfl) nd_p.1 nd_p.2) pe_int (fun _ _ => rfl)) (pe_ix ix_seq (pe_var (i := 1) rfl (Or.inl rfl) nd_q.1 nd_q.2) pe_int (fun _ _ => rfl))) (pe_bin (os_mul hr tk) (pe_ix ix_seq (pe_var (i := 1) rfl (Or.inl rfl) nd_q.1 nd_q.2) pe_int (fun _ _ => rfl)) (pe_ix ix_seq (pe_var (i := 0) rfl (Or.inl rfl) nd_p.1 nd_p.2) pe_int (fun _ _ => rfl))) (nomark _)))), ?_⟩)
  rintro ds m K E - ⟨a, b, c, d, rfl, h1, h2, k⟩
  show Ws _ _ _ [some (.tup [.int a, .int b]), some (.tup [.int c, .int d])] _ _
  dsimp only [cx_G, cx_K]
  simp only [lt_dv h1.pos h2.pos] at k
  walk_at "go"
  · exact h1.bt.mulX h2.bb (by decide)
  · exact h2.bt.mulX h1.bb (by decide)
  · exact k
def S_plus : SpecD := fun ds m K _ => ∃ a b c d, ds = [.tup [.int a, .int b], .tup [.int c, .int d]] ∧ Fr 3900 a b ∧ Fr 3900 c d ∧ K (.tup [.int (a * d + c * b), .int (b * d)]) m
theorem use_plus {a b c d : Int} {m : Mu} {K : KT} {E : Ex → Mu → Prop} (h1 : Fr 3900 a b) (h2 : Fr 3900 c d) (h : K (.tup [.int (a * d + c * b), .int (b * d)]) m) : S_plus [.tup [.int a, .int b], .tup [.int c, .int d]] m K E := ⟨a, b, c, d, rfl, h1, h2, h⟩
theorem ok_plus (T : Txt G C_Ratio C_Span C_ZeroBottom C_Apart C_CarryError) {f : Addr} {fd : FuncData} (F : L2.Fun G.K "_law_plus" "_law_plus" s__law_plus f fd) (b : L2.Binds G.K fd ["p", "q"] []) : Fnx G 1 f 2 S_plus [] := by
  refine fnx_of F sc__law_plus rfl b .nil rfl (fun cdv A outer s H FF hr tk => ⟨_, (pss_one (ps_ret (pe_tup (pa_cons (pe_bin (os_add hr tk) (pe_bin (os_mul hr tk) (pe_ix ix_seq (pe_var (i := 0) rfl (Or.inl rfl) nd_p.1 nd_p.2) pe_int (fun _ _ => rfl)) (pe_ix ix_seq (pe_var (i := 1) rfl (Or.inl rfl) nd_q.1 nd_q.2) pe_int (fun _ _ => rfl))) (pe_bin (os_mul hr tk) (pe_ix ix_seq (pe_var (i := 1) rfl (Or.inl rfl) nd_q.1 nd_q.2) pe_int (fun _ _ => rfl)) (pe_ix ix_seq (pe_var (i := 0) rfl (Or.inl rfl) nd_p.1 nd_p.2) pe_int (fun _ _ => rfl)))) (pa_cons (pe_bin (os_mul hr tk) (pe_ix ix_seq (pe_var (i := 0) rfl (Or.inl rfl) nd_p.1 nd_p.2) pe_int (fun _ _ => rfl)) (pe_ix ix_seq (pe_var (i := 1) rfl (Or.inl rfl) nd_q.1 nd_q.2) pe_int (fun _ _ => rfl))) pa_nil))))), ?_⟩)
  rintro ds m K E - ⟨a, b, c, d, rfl, h1, h2, k⟩
  show Ws _ _ _ [some (.tup [.int a, .int b]), some (.tup [.int c, .int d])] _ _
  dsimp only [cx_G, cx_K]
  walk_at "go"
  · exact h1.bt.mulX h2.bb (by decide)
  · exact h2.bt.mulX h1.bb (by decide)
  · exact h1.bb.mulX h2.bb (by decide)
  · exact k
local macro_rules | `(tactic| walk_at "use") => `(tactic| first | (with_reducible refine use_digit ?_ ?_ (by assumption) fun dg m' d0 d1 hpm => ?_) | (with_reducible refine use_less ?_ ?_ ?_) | (with_reducible refine use_plus ?_ ?_ ?_) | fail)
def S_fraction : SpecD := fun ds m K _ => ∃ p m0, ds = [.ref p] ∧ PotM p m0 m ∧ ∀ t b m', Fr 40 t b → PotM p m0 m' → K (.tup [.int t, .int b]) m'
theorem use_fraction {p : Addr} {m m0 : Mu} {K : KT} {E : Ex → Mu → Prop} (hm : PotM p m0 m) (h : ∀ t b m', Fr 40 t b → PotM p m0 m' → K (.tup [.int t, .int b]) m') : S_fraction [.ref p] m K E := ⟨p, m0, rfl, hm, h⟩
theorem ok_fraction (T : Txt G C_Ratio C_Span C_ZeroBottom C_Apart C_CarryError) (c__law_digit : Cal G 1 "_law_digit" 2 S_digit []) {f : Addr} {fd : FuncData} (F : L2.Fun G.K "_law_fraction" "_law_fraction" s__law_fraction f fd) (b : L2.Binds G.K fd ["pot"] []) : Fnx G 2 f 1 S_fraction [] := by
  refine fnx_of F sc__law_fraction rfl b .nil rfl (fun cdv A outer s H FF hr tk => ⟨_, (pss_cons (ps_set (i := 1) sc__law_fraction.nd rfl (Or.inl rfl) (pe_cl c__law_digit hr (by decide) tk rfl (pa_cons (pe_var (i := 0) rfl (Or.inl rfl) nd_pot.1 nd_pot.2) (pa_cons pe_int pa_nil)))) (pss_cons (ps_if (pt_cm (os_eq hr tk) (pe_var (i := 1) rfl (Or.inl rfl) nd_kind.1 nd_kind.2) pe_int (nomark _)) (pss_cons (ps_set (i := 2) sc__law_fraction.nd rfl (Or.inl rfl) (pe_bin (os_sub hr tk) (pe_cl c__law_digit hr (by decide) tk rfl (pa_cons (pe_var (i := 0) rfl (Or.inl rfl) nd_pot.1 nd_pot.2) (pa_cons (pe_bin (os_add hr tk) (pe_bin (os_mul hr tk) pe_int (pe_bin os_pow pe_int pe_int)) pe_int) pa_nil))) (pe_bin os_pow pe_int pe_int))) (pss_one (ps_ret (pe_tup (pa_cons (pe_var (i := 2) rfl (Or.inl rfl) nd_top.1 nd_top.2) (pa_cons (pe_bin (os_add hr tk) pe_int (pe_cl c__law_digit hr (by decide) tk rfl (pa_cons (pe_var (i := 0) rfl (Or.inl rfl) nd_pot.1 nd_pot.2) (pa_cons (pe_bin os_pow pe_int pe_int) pa_nil)))) pa_nil)))))) pss_nil) (pss_cons (ps_if (pt_cm (os_eq hr tk) (pe_var (i := 1) rfl (Or.inl rfl) nd_kind.1 nd_kind.2) pe_int (nomark _)) (pss_cons (ps_set (i := 2) sc__law_fraction.nd rfl (Or.inl rfl) (pe_bin (os_sub hr tk) (pe_cl c__law_digit hr (by decide) tk rfl (pa_cons (pe_var (i := 0) rfl (Or.inl rfl) nd_pot.1 nd_pot.2) (pa_cons pe_int pa_nil))) pe_int)) (pss_one (ps_ret (pe_tup (pa_cons (pe_var (i := 2) rfl (Or.inl rfl) nd_top.1 nd_top.2) (pa_cons (pe_bin (os_add hr tk) pe_int (pe_cl c__law_digit hr (by decide) tk rfl (pa_cons (pe_var (i := 0) rfl (Or.inl rfl) nd_pot.1 nd_pot.2) (pa_cons pe_int pa_nil)))) pa_nil)))))) pss_nil) (pss_cons (ps_set (i := 2) sc__law_fraction.nd rfl (Or.inl rfl) (pe_bin (os_sub hr tk) pe_int (pe_cl c__law_digit hr (by decide) tk rfl (pa_cons (pe_var (i := 0) rfl (Or.inl rfl) nd_pot.1 nd_pot.2) (pa_cons pe_int pa_nil))))) (pss_one (ps_ret (pe_tup (pa_cons (pe_var (i := 2) rfl (Or.inl rfl) nd_top.1 nd_top.2) (pa_cons (pe_bin (os_sub hr tk) pe_int (pe_cl c__law_digit hr (by decide) tk rfl (pa_cons (pe_var (i := 0) rfl (Or.inl rfl) nd_pot.1 nd_pot.2) (pa_cons pe_int pa_nil)))) pa_nil))))))))), ?_⟩)
  rintro ds m K E - ⟨p, m0, rfl, hm, k⟩
  show Ws _ _ _ [some (.ref p), none, none] _ _
  dsimp only [cx_G, cx_K]
  have e6 : (10 : Int) ^ Int.toNat 12 = 1000000000000 := by decide
  have cp : CPow 10 12 := by
    unfold CPow
    decide
  have bg : ∀ x y : Int, 0 ≤ x → x < 2 * 10 ^ Int.toNat 12 + 1 → 0 ≤ y → y < 10 ^ Int.toNat 12 → ∀ m', PotM p m0 m' → K (.tup [.int (x - 10 ^ Int.toNat 12), .int (1 + y)]) m' := fun x y hx hx2 hy hy2 m' hm => by
    rw [e6] at *
    exact k _ _ _ (fr_small (by omega) (by omega) (by omega)) hm
  have b2 : Bd 2 2 := bd_lit (by decide)
  walk_at "go"
  all_goals first
    | exact cp
    | exact bg _ _ (by assumption) (by assumption) (by assumption) (by assumption) _ (by assumption)
    | exact bd_lit (by decide)
    | decide
    | exact (b2.mulX (bd_lit (n := 60) (by decide)) (by decide))
    | exact k _ _ _ (fr_small (by omega) (by omega) (by omega)) (by assumption)
def S_ends : SpecD := fun ds m K _ => ∃ p sh m0, ds = [.ref p, .int sh] ∧ (sh = 0 ∨ sh = 2) ∧ PotM p m0 m ∧ ∀ a b c d m', Fr 82 a b → Fr 82 c d → dv a b ≤ dv c d → PotM p m0 m' → K (.tup [.tup [.int a, .int b], .tup [.int c, .int d]]) m'
theorem use_ends {p : Addr} {sh : Int} {m m0 : Mu} {K : KT} {E : Ex → Mu → Prop} (hs : sh = 0 ∨ sh = 2) (hm : PotM p m0 m) (h : ∀ a b c d m', Fr 82 a b → Fr 82 c d → dv a b ≤ dv c d → PotM p m0 m' → K (.tup [.tup [.int a, .int b], .tup [.int c, .int d]]) m') : S_ends [.ref p, .int sh] m K E := ⟨p, sh, m0, rfl, hs, hm, h⟩
local macro_rules | `(tactic| walk_at "use") => `(tactic| first | (with_reducible refine use_digit ?_ ?_ (by assumption) fun dg m' d0 d1 hpm => ?_) | (with_reducible refine use_less ?_ ?_ ?_) | (with_reducible refine use_plus ?_ ?_ ?_) | (with_reducible refine use_fraction (by assumption) fun t b m' fr hpm => ?_) | fail)
theorem ok_ends (T : Txt G C_Ratio C_Span C_ZeroBottom C_Apart C_CarryError) (c__law_digit : Cal G 1 "_law_digit" 2 S_digit []) (c__law_fraction : Cal G 2 "_law_fraction" 1 S_fraction []) (c__law_less : Cal G 1 "_law_less" 2 S_less []) (c__law_plus : Cal G 1 "_law_plus" 2 S_plus []) {f : Addr} {fd : FuncData} (F : L2.Fun G.K "_law_ends" "_law_ends" s__law_ends f fd) (b : L2.Binds G.K fd ["pot", "shift"] []) : Fnx G 3 f 2 S_ends [] := by
  refine fnx_of F sc__law_ends rfl b .nil rfl (fun cdv A outer s H FF hr tk => ⟨_, (pss_cons (ps_set (i := 2) sc__law_ends.nd rfl (Or.inl rfl) (pe_bin os_mod (pe_ct cs_int rfl T.n_int bt_int (pa_cons (pe_bin (os_add hr tk) (pe_cl c__law_digit hr (by decide) tk rfl (pa_cons (pe_var (i := 0) rfl (Or.inl rfl) nd_pot.1 nd_pot.2) (pa_cons pe_int pa_nil))) (pe_var (i := 1) rfl (Or.inl rfl) nd_shift.1 nd_shift.2)) pa_nil)) pe_int)) (pss_cons (ps_set (i := 3) sc__law_ends.nd rfl (Or.inl rfl) (pe_cl c__law_fraction hr (by decide) tk rfl (pa_cons (pe_var (i := 0) rfl (Or.inl rfl) nd_pot.1 nd_pot.2) pa_nil))) (pss_cons (ps_if (pt_cm (os_eq hr tk) (pe_var (i := 2) rfl (Or.inl rfl) nd_kind.1 nd_kind.2) pe_int (nomark _)) (pss_one (ps_ret (pe_tup (pa_cons (pe_var (i := 3) rfl (Or.inl rfl) nd_p.1 nd_p.2) (pa_cons (pe_var (i := 3) rfl (Or.inl rfl) nd_p.1 nd_p.2) pa_nil))))) pss_nil) (pss_cons (ps_set (i := 4) sc__law_ends.nd rfl (Or.inl rfl) (pe_cl c__law_fraction hr (by decide) tk rfl (pa_cons (pe_var (i := 0) rfl (Or.inl rfl) nd_pot.1 nd_pot.2) pa_nil))) (pss_cons (ps_if (pt_cm (os_eq hr tk) (pe_var (i := 2) rfl (Or.inl rfl) nd_kind.1 nd_kind.2) pe_int (nomark _)) (pss_one (ps_ret (pe_tup (pa_cons (pe_var (i := 3) rfl (Or.inl rfl) nd_p.1 nd_p.2) (pa_cons (pe_cl c__law_plus hr (by decide) tk rfl (pa_cons (pe_var (i := 3) rfl (Or.inl rfl) nd_p.1 nd_p.2) (pa_cons (pe_tup (pa_cons (pe_cb cs_abs rfl T.n_abs bt_abs (pa_cons (pe_ix ix_seq (pe_var (i := 4) rfl (Or.inl rfl) nd_q.1 nd_q.2) pe_int (fun _ _ => rfl)) pa_nil)) (pa_cons (pe_ix ix_seq (pe_var (i := 4) rfl (Or.inl rfl) nd_q.1 nd_q.2) pe_int (fun _ _ => rfl)) pa_nil))) pa_nil))) pa_nil))))) pss_nil) (pss_cons (ps_if (pt_cm (os_eq hr tk) (pe_var (i := 2) rfl (Or.inl rfl) nd_kind.1 nd_kind.2) pe_int (nomark _)) (pss_one (ps_ret (pe_tup (pa_cons (pe_tup (pa_cons (pe_una (us_neg hr tk) (pe_cb cs_abs rfl T.n_abs bt_abs (pa_cons (pe_ix ix_seq (pe_var (i := 3) rfl (Or.inl rfl) nd_p.1 nd_p.2) pe_int (fun _ _ => rfl)) pa_nil))) (pa_cons (pe_ix ix_seq (pe_var (i := 3) rfl (Or.inl rfl) nd_p.1 nd_p.2) pe_int (fun _ _ => rfl)) pa_nil))) (pa_cons (pe_tup (pa_cons (pe_cb cs_abs rfl T.n_abs bt_abs (pa_cons (pe_ix ix_seq (pe_var (i := 4) rfl (Or.inl rfl) nd_q.1 nd_q.2) pe_int (fun _ _ => rfl)) pa_nil)) (pa_cons (pe_ix ix_seq (pe_var (i := 4) rfl (Or.inl rfl) nd_q.1 nd_q.2) pe_int (fun _ _ => rfl)) pa_nil))) pa_nil))))) pss_nil) (pss_cons (ps_if (pt_cm (os_eq hr tk) (pe_var (i := 2) rfl (Or.inl rfl) nd_kind.1 nd_kind.2) pe_int (nomark _)) (pss_one (ps_ret (pe_tup (pa_cons (pe_tup (pa_cons pe_int (pa_cons pe_int pa_nil))) (pa_cons (pe_tup (pa_cons (pe_cb cs_abs rfl T.n_abs bt_abs (pa_cons (pe_ix ix_seq (pe_var (i := 4) rfl (Or.inl rfl) nd_q.1 nd_q.2) pe_int (fun _ _ => rfl)) pa_nil)) (pa_cons (pe_ix ix_seq (pe_var (i := 4) rfl (Or.inl rfl) nd_q.1 nd_q.2) pe_int (fun _ _ => rfl)) pa_nil))) pa_nil))))) pss_nil) (pss_cons (ps_if (pt_cm (os_eq hr tk) (pe_var (i := 2) rfl (Or.inl rfl) nd_kind.1 nd_kind.2) pe_int (nomark _)) (pss_one (ps_ret (pe_tup (pa_cons (pe_tup (pa_cons (pe_una (us_neg hr tk) (pe_cb cs_abs rfl T.n_abs bt_abs (pa_cons (pe_ix ix_seq (pe_var (i := 4) rfl (Or.inl rfl) nd_q.1 nd_q.2) pe_int (fun _ _ => rfl)) pa_nil))) (pa_cons (pe_ix ix_seq (pe_var (i := 4) rfl (Or.inl rfl) nd_q.1 nd_q.2) pe_int (fun _ _ => rfl)) pa_nil))) (pa_cons (pe_tup (pa_cons pe_int (pa_cons pe_int pa_nil))) pa_nil))))) pss_nil) (pss_cons (ps_if (pt_tr (pe_cl c__law_less hr (by decide) tk rfl (pa_cons (pe_var (i := 4) rfl (Or.inl rfl) nd_q.1 nd_q.2) (pa_cons (pe_var (i := 3) rfl (Or.inl rfl) nd_p.1 nd_p.2) pa_nil)))) (pss_one (ps_ret (pe_tup (pa_cons (pe_var (i := 4) rfl (Or.inl rfl) nd_q.1 nd_q.2) (pa_cons (pe_var (i := 3) rfl (Or.inl rfl) nd_p.1 nd_p.2) pa_nil))))) pss_nil) (pss_one (ps_ret (pe_tup (pa_cons (pe_var (i := 3) rfl (Or.inl rfl) nd_p.1 nd_p.2) (pa_cons (pe_var (i := 4) rfl (Or.inl rfl) nd_q.1 nd_q.2) pa_nil)))))))))))))), ?_⟩)
  rintro ds m K E - ⟨p, sh, m0, rfl, hs, hm, k⟩
  show Ws _ _ _ [some (.ref p), some (.int sh), none, none, none] _ _
  dsimp only [cx_G, cx_K]
  have ad : ∀ a b c d, Fr 40 a b → Fr 40 c d → dv a b ≤ dv (a * d + (c.natAbs : Int) * b) (b * d) := fun a b c d h q => by
    rw [← add_dv (by have := h.pos; omega) (by have := q.pos; omega)]
    have := abs_nn (a := c) q.pos
    grind
  have st : ∀ a b c d, Fr 40 a b → Fr 40 c d → dv (-(a.natAbs : Int)) b ≤ dv (c.natAbs : Int) d := fun a b c d h q => Rat.le_trans (neg_np h.pos) (abs_nn q.pos)
  have s0 : ∀ c d, Fr 40 c d → dv 0 1 ≤ dv (c.natAbs : Int) d := fun c d q => abs_nn q.pos
  have s1 : ∀ c d, Fr 40 c d → dv (-(c.natAbs : Int)) d ≤ dv 0 1 := fun c d q => neg_np q.pos
  have up : ∀ a b, Fr 40 a b → Fr 82 a b := fun a b h => h.mono (by decide)
  walk_at "go"
  all_goals first
    | decide
    | exact bd_lit (by decide)
    | exact Fr.mono ‹_› (by decide)
    | exact (Fr.abs ‹_›).mono (by decide)
    | exact k _ _ _ _ _ (up _ _ ‹_›) (up _ _ ‹_›) Rat.le_refl ‹_›
    | exact k _ _ _ _ _ (up _ _ ‹_›) ((Fr.plus ‹_› (Fr.abs ‹_›)).mono (by decide)) (ad _ _ _ _ ‹_› ‹_›) ‹_›
    | exact k _ _ _ _ _ (Fr.mono (Fr.neg (Fr.abs ‹_›)) (by decide)) ((Fr.abs ‹_›).mono (by decide)) (st _ _ _ _ ‹_› ‹_›) ‹_›
    | exact k _ _ _ _ _ (up _ _ fr_zero) ((Fr.abs ‹_›).mono (by decide)) (s0 _ _ ‹_›) ‹_›
    | exact k _ _ _ _ _ ((Fr.abs ‹_›).neg.mono (by decide)) (up _ _ fr_zero) (s1 _ _ ‹_›) ‹_›
    | exact k _ _ _ _ _ (up _ _ ‹_›) (up _ _ ‹_›) (Rat.le_of_lt ‹_›) ‹_›
    | exact k _ _ _ _ _ (up _ _ ‹_›) (up _ _ ‹_›) (Rat.not_lt.mp ‹_›) ‹_›
end
end K05
set_option Elab.async false
set_option linter.all false
set_option maxRecDepth 100000
set_option maxHeartbeats 4000000
namespace K05
open PySem PySem.Spec L2 DL
open PyProof.Rows hiding St
/-! one step, by the goal's head -/
local macro_rules | `(tactic| walk_at "sWe") => `(tactic| first
  | ((with_reducible refine we_var (d := ?d) ?hv ?hk); case hv => rfl)
  | (with_reducible first
    | refine we_cint ?_ | refine we_2 ?_ | refine we_fldF ?_ | refine we_cl0 ?_ | refine we_tup ?_ | refine we_1 ?_ | refine we_c2 ?_ | refine we_cbl ?_ | refine we_cnon ?_ | refine we_cty ?_ | refine we_cref ?_
    | refine we_op ?_ | refine we_andV ?_ | refine we_orV ?_ | refine we_notV ?_ | refine we_3 ?_ | refine we_ifx ?_ | refine we_clH ?_)
  | walk_at "useWe")
local macro_rules | `(tactic| walk_at "sWt") => `(tactic| with_reducible first | refine wt_test ?_ | refine wt_tr ?_ | refine wt_and ?_ | refine wt_or ?_ | refine wt_not ?_)
local macro_rules | `(tactic| walk_at "sWa") => `(tactic| with_reducible first | refine wa_nil ?_ | refine wa_cons ?_)
local macro_rules | `(tactic| walk_at "sW2") => `(tactic| first
  | (with_reducible first
    | refine w2_add ?_ | refine w2_sub ?_ | refine w2_mul ⟨?_, ?_⟩ | refine w2_fdiv ⟨?_, ?_⟩ | refine w2_mod ⟨?_, ?_⟩ | refine w2_pow ⟨?_, ?_⟩ | refine w2_eqI ?_ | refine w2_neI ?_ | refine w2_lt ?_ | refine w2_le ?_ | refine w2_gt ?_ | refine w2_ge ?_)
  | ((with_reducible refine w2_ixT (d := ?d) ⟨?hv, ?hk⟩); case hv => rfl)
  | ((with_reducible refine w2_ixL (d := ?d) ⟨?hv, ?hk⟩); case hv => rfl)
  | ((with_reducible refine w2_ixM (d := ?d) .head ⟨?hv, ?hk⟩); case hv => rfl)
  | (with_reducible first
    | refine w2_eqIH ?_ | refine w2_neIH ?_ | refine w2_mulH ⟨?_, ?_⟩ | refine w2_addH ?_ | refine w2_subH ?_ | refine w2_isN ?_ | refine w2_notN ?_ | refine w2_isB ?_ | refine w2_notB ?_)
  | walk_at "useW2")
local macro_rules | `(tactic| walk_at "sW1") => `(tactic| first | (with_reducible refine w1_neg ?_) | walk_at "useW2")
local macro_rules | `(tactic| walk_at "sWc") => `(tactic| first
  | (with_reducible first | refine wc_int ?_ | refine wc_abs ?_ | refine wc_min ?_ | refine wc_gcd ?_ | refine wc_isiT .int kit_ii ?_ | refine wc_isiT .int kit_ib ?_ | refine wc_len .lst ?_ | refine wc_len .tup ?_)
  | walk_at "useWc")
local macro_rules | `(tactic| walk_at "sWg") => `(tactic| with_reducible first | refine wg_name ?_ | refine wg_subM ?_ | refine wg_tup rfl ?_)
local macro_rules | `(tactic| walk_at "sWgs") => `(tactic| with_reducible first | refine wgs_cons ?_ | refine wgs_nil ?_)
local macro_rules | `(tactic| walk_at "sWs") => `(tactic| first
  | (with_reducible first | refine ws_seq ?_ | refine ws_ret ?_ | refine ws_asg ?_ | refine ws_next ?_ | refine ws_drop ?_ | refine ws_par ?_ | refine ws_par3 ?_ | refine ws_fldN ?_ | refine ws_brk ?_ | refine ws_cont ?_)
  | walk_at "useWs")
local macro_rules | `(tactic| walk_at "sX") => `(tactic| first
  | (with_reducible refine ⟨_, rfl, ?_⟩)
  | (with_reducible refine fld_top (by assumption) ?_) | (with_reducible refine fld_bottom (by assumption) ?_)
  | (with_reducible refine ⟨_, .bl, ?_⟩)
  | ((with_reducible refine ⟨?h, ?_⟩); case h => rfl)
  | (with_reducible refine ⟨_, _, rfl, ?_⟩)
  | (with_reducible refine ⟨_, _, _, rfl, ?_⟩)
  | walk_at "use"
  | (with_reducible refine setN_top (by assumption) ?_) | (with_reducible refine setN_bottom (by assumption) ?_)
  | ((with_reducible refine ⟨_, _, _, ?j, _, rfl, rfl, .head, ?h, .head, ?_⟩); case h => rfl)
  | fail)
local macro_rules | `(tactic| walk_at "br") => `(tactic| ((with_reducible refine ⟨fun hb => ?_, fun hb => ?_⟩) <;> (try simp only [decide_eq_true_eq, decide_eq_false_iff_not, Bool.not_eq_true', Bool.not_eq_false', Bool.and_eq_true, Bool.or_eq_true, reduceCtorEq, List.length_map, Bool.not_true, Bool.not_false, isNon] at hb)))
local macro_rules | `(tactic| walk_at "wif") => `(tactic| (with_reducible refine ws_if ?_))
local macro_rules | `(tactic| walk_at "st") => `(tactic| first
  | ((with_reducible show We _ _ _ _ _ _); walk_at "sWe")
  | ((with_reducible show W2 _ _ _ _ _ _ _ _); walk_at "sW2")
  | ((with_reducible show Wa _ _ _ _ _ _); walk_at "sWa")
  | ((with_reducible show Ws _ _ _ _ _ _); walk_at "sWs")
  | ((with_reducible show Wt _ _ _ _ _ _); walk_at "sWt")
  | ((with_reducible show Wc _ _ _ _ _ _ _); walk_at "sWc")
  | ((with_reducible show Wg _ _ _ _ _ _ _); walk_at "sWg")
  | ((with_reducible show W1 _ _ _ _ _ _ _); walk_at "sW1")
  | ((with_reducible show Wgs _ _ _ _ _ _ _); walk_at "sWgs")
  | walk_at "sX" | fail)
local macro_rules | `(tactic| walk_at "dl") => `(tactic| repeat (first | walk_at "st" | walk_at "wif" | fail))
local macro_rules | `(tactic| walk_at "gn") => `(tactic| repeat' (first | walk_at "st" | walk_at "br" | fail))
local macro_rules | `(tactic| walk_at "go") => `(tactic| repeat' (first | walk_at "st" | walk_at "wif" | walk_at "br" | fail))
local macro_rules | `(tactic| walk_at "useWe") => `(tactic| first | (with_reducible refine we_mt ?_) | (with_reducible refine we_ratQ ?_) | (with_reducible refine we_ratQ1 ?_) | (with_reducible refine we_spn ?_) | fail)
local macro_rules | `(tactic| walk_at "useW2") => `(tactic| first
  | (with_reducible refine w2_addO (by assumption) (by decide) .fixed .fixed ?_) | (with_reducible refine w2_subO (by assumption) (by decide) .fixed .fixed ?_) | (with_reducible refine w2_mulO (by assumption) (by decide) .fixed .fixed ?_) | (with_reducible refine w1_negO (by assumption) (by decide) .fixed ?_) | (with_reducible refine w2_inO (by assumption) (by decide) .fixed ?_) | fail)
local macro_rules | `(tactic| walk_at "useWc") => `(tactic| fail)
local macro_rules | `(tactic| walk_at "useWs") => `(tactic| first | (with_reducible refine ws_rs0 ?_) | (with_reducible refine ws_rs ?_) | fail)
local macro_rules | `(tactic| walk_at "use") => `(tactic| fail)

/-! Ratio and Span by numbers: their promises used -/
local macro_rules | `(tactic| walk_at "useq") => `(tactic| first
  | (with_reducible refine fld_low (by assumption) ?_) | (with_reducible refine fld_high (by assumption) ?_)
  | (with_reducible refine mt_of0 (by assumption) (by decide) ?_) | (with_reducible refine RatQ.mk ?_ ?_ ?_)
  | (with_reducible refine use_qcmp ?_ ?_ ?_) | (with_reducible refine use_qsign ?_)
  | (with_reducible refine use_qleast ?_ ?_ ?_) | (with_reducible refine use_qgreat ?_ ?_ ?_)
  | (with_reducible refine use_qadd ?_ ?_ ?_) | (with_reducible refine use_qsub ?_ ?_ ?_) | (with_reducible refine use_qmul ?_ ?_ ?_) | (with_reducible refine use_qdiv ?_ ?_ ?_ ?_) | (with_reducible refine use_qneg ?_ ?_)
  | (with_reducible refine SpnA.mk ?_ ?_ ?_ ?_)
  | (with_reducible refine use_s2 ?_ ?_) | (with_reducible refine use_sneg ?_ ?_ ?_ ?_) | (with_reducible refine use_scont ?_ ?_ ?_ ?_) | (with_reducible refine use_sdiv ?_ ?_ ?_)
  | (with_reducible refine setN_low (by assumption) ?_) | (with_reducible refine setN_high (by assumption) ?_)
  | fail)

local macro_rules | `(tactic| walk_at "useWc") => `(tactic| with_reducible refine wc_isiC (.ins (by assumption)) (by assumption) ?_)
section
variable {G : Gx} {C_Ratio C_Span C_ZeroBottom C_Apart C_CarryError : Addr}
local macro_rules | `(tactic| walk_at "use") => `(tactic| first | (with_reducible refine use_digit ?_ ?_ (by assumption) fun dg m' d0 d1 hpm => ?_) | (with_reducible refine use_less ?_ ?_ ?_) | (with_reducible refine use_plus ?_ ?_ ?_) | fail)
theorem six {g : Int} (h0 : 0 ≤ g) (h7 : g < 7) : ∃ s : Int, atI [D.int 3, .int 0, .int 6, .int 1, .int 2, .int 4, .int 5] g = some (.int s) ∧ 0 ≤ s ∧ s ≤ 6 := by
  have e : g = 0 ∨ g = 1 ∨ g = 2 ∨ g = 3 ∨ g = 4 ∨ g = 5 ∨ g = 6 := by omega
  rcases e with rfl | rfl | rfl | rfl | rfl | rfl | rfl
  · exact ⟨3, rfl, by decide, by decide⟩
  · exact ⟨0, rfl, by decide, by decide⟩
  · exact ⟨6, rfl, by decide, by decide⟩
  · exact ⟨1, rfl, by decide, by decide⟩
  · exact ⟨2, rfl, by decide, by decide⟩
  · exact ⟨4, rfl, by decide, by decide⟩
  · exact ⟨5, rfl, by decide, by decide⟩
def S_between : SpecD := fun ds m K _ => ∃ p a b c d m0, ds = [.ref p, .tup [.tup [.int a, .int b], .tup [.int c, .int d]]] ∧ Fr 82 a b ∧ Fr 82 c d ∧ dv a b ≤ dv c d ∧ PotM p m0 m ∧ ∀ t n m', Fr 300 t n → dv a b ≤ dv t n → dv t n ≤ dv c d → PotM p m0 m' → K (.tup [.int t, .int n]) m'
theorem use_between {p : Addr} {a b c d : Int} {m m0 : Mu} {K : KT} {E : Ex → Mu → Prop} (h1 : Fr 82 a b) (h2 : Fr 82 c d) (h3 : dv a b ≤ dv c d) (hm : PotM p m0 m) (h : ∀ t n m', Fr 300 t n → dv a b ≤ dv t n → dv t n ≤ dv c d → PotM p m0 m' → K (.tup [.int t, .int n]) m') : S_between [.ref p, .tup [.tup [.int a, .int b], .tup [.int c, .int d]]] m K E := ⟨p, a, b, c, d, m0, rfl, h1, h2, h3, hm, h⟩
theorem way {a b c d s : Int} (h1 : Fr 82 a b) (h2 : Fr 82 c d) (h3 : dv a b ≤ dv c d) (s0 : 0 ≤ s) (s6 : s ≤ 6) :
    Fr 165 (c * b + -a * d) (d * b) ∧ Fr 170 ((c * b + -a * d) * s) (d * b * 6) ∧ Fr 300 (a * (d * b * 6) + (c * b + -a * d) * s * b) (b * (d * b * 6)) ∧ dv a b ≤ dv (a * (d * b * 6) + (c * b + -a * d) * s * b) (b * (d * b * 6)) ∧ dv (a * (d * b * 6) + (c * b + -a * d) * s * b) (b * (d * b * 6)) ≤ dv c d := by
  have p1 := h1.pos
  have p2 := h2.pos
  have f1 : Fr 165 (c * b + -a * d) (d * b) := h2.plus h1.neg
  have fs : Fr 3 s 6 := ⟨by decide, by unfold Bd; omega, bd_lit (by decide)⟩
  have f2 : Fr 170 ((c * b + -a * d) * s) (d * b * 6) := (f1.mul fs).mono (by decide)
  have f3 : Fr 300 (a * (d * b * 6) + (c * b + -a * d) * s * b) (b * (d * b * 6)) := (h1.plus f2).mono (by decide)
  refine ⟨f1, f2, f3, ?_⟩
  have p3 := f1.pos
  have p4 := f2.pos
  rw [← add_dv (a := a) (b := b) (c := (c * b + -a * d) * s) (d := d * b * 6) (by omega) (by omega), ← mul_dv, ← add_dv (by omega) (by omega), ← neg_dv]
  have w0 : 0 ≤ dv s 6 := (dv_nonneg (by decide)).mpr s0
  have w1 : dv s 6 ≤ 1 := by
    rw [show (1 : Rat) = dv 1 1 from rfl, le_dv (by decide) (by decide)]
    omega
  generalize dv s 6 = w at *
  generalize dv a b = x at *
  generalize dv c d = y at *
  have q0 : 0 ≤ y + -x := by grind
  have q1 := Rat.mul_nonneg q0 w0
  have q2 := Rat.mul_nonneg q0 (show 0 ≤ 1 - w by grind)
  grind
theorem ok_between (T : Txt G C_Ratio C_Span C_ZeroBottom C_Apart C_CarryError) (c__law_digit : Cal G 1 "_law_digit" 2 S_digit []) (c__law_plus : Cal G 1 "_law_plus" 2 S_plus []) {f : Addr} {fd : FuncData} (F : L2.Fun G.K "_law_between" "_law_between" s__law_between f fd) (b : L2.Binds G.K fd ["pot", "s"] []) : Fnx G 2 f 2 S_between [] := by
  refine fnx_of F sc__law_between rfl b .nil rfl (fun cdv A outer s H FF hr tk => ⟨_, (pss_cons (ps_set (i := 2) sc__law_between.nd rfl (Or.inl rfl) (pe_ix ix_seq (pe_lst (pa_cons pe_int (pa_cons pe_int (pa_cons pe_int (pa_cons pe_int (pa_cons pe_int (pa_cons pe_int (pa_cons pe_int pa_nil)))))))) (pe_cl c__law_digit hr (by decide) tk rfl (pa_cons (pe_var (i := 0) rfl (Or.inl rfl) nd_pot.1 nd_pot.2) (pa_cons pe_int pa_nil))) (fun _ _ => rfl))) (pss_cons (ps_set (i := 3) sc__law_between.nd rfl (Or.inl rfl) (pe_cl c__law_plus hr (by decide) tk rfl (pa_cons (pe_ix ix_seq (pe_var (i := 1) rfl (Or.inl rfl) nd_s.1 nd_s.2) pe_int (fun _ _ => rfl)) (pa_cons (pe_tup (pa_cons (pe_una (us_neg hr tk) (pe_ix ix_seq (pe_ix ix_seq (pe_var (i := 1) rfl (Or.inl rfl) nd_s.1 nd_s.2) pe_int (fun _ _ => rfl)) pe_int (fun _ _ => rfl))) (pa_cons (pe_ix ix_seq (pe_ix ix_seq (pe_var (i := 1) rfl (Or.inl rfl) nd_s.1 nd_s.2) pe_int (fun _ _ => rfl)) pe_int (fun _ _ => rfl)) pa_nil))) pa_nil)))) (pss_one (ps_ret (pe_cl c__law_plus hr (by decide) tk rfl (pa_cons (pe_ix ix_seq (pe_var (i := 1) rfl (Or.inl rfl) nd_s.1 nd_s.2) pe_int (fun _ _ => rfl)) (pa_cons (pe_tup (pa_cons (pe_bin (os_mul hr tk) (pe_ix ix_seq (pe_var (i := 3) rfl (Or.inl rfl) nd_way.1 nd_way.2) pe_int (fun _ _ => rfl)) (pe_var (i := 2) rfl (Or.inl rfl) nd_sixths.1 nd_sixths.2)) (pa_cons (pe_bin (os_mul hr tk) (pe_ix ix_seq (pe_var (i := 3) rfl (Or.inl rfl) nd_way.1 nd_way.2) pe_int (fun _ _ => rfl)) pe_int) pa_nil))) pa_nil))))))), ?_⟩)
  rintro ds m K E - ⟨p, a, b, c, d, m0, rfl, h1, h2, h3, hm, k⟩
  show Ws _ _ _ [some (.ref p), some (.tup [.tup [.int a, .int b], .tup [.int c, .int d]]), none, none] _ _
  dsimp only [cx_G, cx_K]
  walk_at "go"
  refine we_lst ?_
  walk_at "go"
  · decide
  · exact bd_lit (by decide)
  rename_i dg m1 d0 d1 hpm
  obtain ⟨s, hs, s0, s6⟩ := six d0 d1
  obtain ⟨f1, f2, f3, l1, l2⟩ := way h1 h2 h3 s0 s6
  refine w2_ixL ⟨hs, ?_⟩
  walk_at "go"
  · exact h2.mono (by decide)
  · exact h1.neg.mono (by decide)
  · exact f1.bt.mulX (show Bd 3 s by unfold Bd; omega) (by decide)
  · exact f1.bb.mulX (show Bd 3 6 from bd_lit (by decide)) (by decide)
  · exact h1.mono (by decide)
  · exact f2.mono (by decide)
  · exact k _ _ _ f3 l1 l2 ‹_›
def S_own : SpecD := fun ds m K _ => ∃ op a b c d, ds = [.int op, .tup [.int a, .int b], .tup [.int c, .int d]] ∧ 0 ≤ op ∧ op ≤ 5 ∧ Fr 900 a b ∧ Fr 900 c d ∧ K (.tup [.int (ownT op a b c d), .int (ownB op a b c d)]) m
theorem use_own {op a b c d : Int} {m : Mu} {K : KT} {E : Ex → Mu → Prop} (h0 : 0 ≤ op) (h5 : op ≤ 5) (h1 : Fr 900 a b) (h2 : Fr 900 c d) (h : K (.tup [.int (ownT op a b c d), .int (ownB op a b c d)]) m) : S_own [.int op, .tup [.int a, .int b], .tup [.int c, .int d]] m K E := ⟨op, a, b, c, d, rfl, h0, h5, h1, h2, h⟩
theorem ok_own (T : Txt G C_Ratio C_Span C_ZeroBottom C_Apart C_CarryError) (c__law_less : Cal G 1 "_law_less" 2 S_less []) (c__law_plus : Cal G 1 "_law_plus" 2 S_plus []) {f : Addr} {fd : FuncData} (F : L2.Fun G.K "_law_own" "_law_own" s__law_own f fd) (b : L2.Binds G.K fd ["op", "p", "q"] []) : Fnx G 2 f 3 S_own [] := by
  refine fnx_of F sc__law_own rfl b .nil rfl (fun cdv A outer s H FF hr tk => ⟨_, (pss_cons (ps_if (pt_cm (os_eq hr tk) (pe_var (i := 0) rfl (Or.inl rfl) nd_op.1 nd_op.2) pe_int (nomark _)) (pss_one (ps_ret (pe_cl c__law_plus hr (by decide) tk rfl (pa_cons (pe_var (i := 1) rfl (Or.inl rfl) nd_p.1 nd_p.2) (pa_cons (pe_var (i := 2) rfl (Or.inl rfl) nd_q.1 nd_q.2) pa_nil))))) pss_nil) (pss_cons (ps_if (pt_cm (os_eq hr tk) (pe_var (i := 0) rfl (Or.inl rfl) nd_op.1 nd_op.2) pe_int (nomark _)) (pss_one (ps_ret (pe_cl c__law_plus hr (by decide) tk rfl (pa_cons (pe_var (i := 1) rfl (Or.inl rfl) nd_p.1 nd_p.2) (pa_cons (pe_tup (pa_cons (pe_una (us_neg hr tk) (pe_ix ix_seq (pe_var (i := 2) rfl (Or.inl rfl) nd_q.1 nd_q.2) pe_int (fun _ _ => rfl))) (pa_cons (pe_ix ix_seq (pe_var (i := 2) rfl (Or.inl rfl) nd_q.1 nd_q.2) pe_int (fun _ _ => rfl)) pa_nil))) pa_nil))))) pss_nil) (pss_cons (ps_if (pt_cm (os_eq hr tk) (pe_var (i := 0) rfl (Or.inl rfl) nd_op.1 nd_op.2) pe_int (nomark _)) (pss_one (ps_ret (pe_tup (pa_cons (pe_bin (os_mul hr tk) (pe_ix ix_seq (pe_var (i := 1) rfl (Or.inl rfl) nd_p.1 nd_p.2) pe_int (fun _ _ => rfl)) (pe_ix ix_seq (pe_var (i := 2) rfl (Or.inl rfl) nd_q.1 nd_q.2) pe_int (fun _ _ => rfl))) (pa_cons (pe_bin (os_mul hr tk) (pe_ix ix_seq (pe_var (i := 1) rfl (Or.inl rfl) nd_p.1 nd_p.2) pe_int (fun _ _ => rfl)) (pe_ix ix_seq (pe_var (i := 2) rfl (Or.inl rfl) nd_q.1 nd_q.2) pe_int (fun _ _ => rfl))) pa_nil))))) pss_nil) (pss_cons (ps_if (pt_cm (os_eq hr tk) (pe_var (i := 0) rfl (Or.inl rfl) nd_op.1 nd_op.2) pe_int (nomark _)) (pss_one (ps_ret (pe_ifExp (pt_tr (pe_cl c__law_less hr (by decide) tk rfl (pa_cons (pe_var (i := 2) rfl (Or.inl rfl) nd_q.1 nd_q.2) (pa_cons (pe_var (i := 1) rfl (Or.inl rfl) nd_p.1 nd_p.2) pa_nil)))) (pe_var (i := 2) rfl (Or.inl rfl) nd_q.1 nd_q.2) (pe_var (i := 1) rfl (Or.inl rfl) nd_p.1 nd_p.2)))) pss_nil) (pss_cons (ps_if (pt_cm (os_eq hr tk) (pe_var (i := 0) rfl (Or.inl rfl) nd_op.1 nd_op.2) pe_int (nomark _)) (pss_one (ps_ret (pe_ifExp (pt_tr (pe_cl c__law_less hr (by decide) tk rfl (pa_cons (pe_var (i := 1) rfl (Or.inl rfl) nd_p.1 nd_p.2) (pa_cons (pe_var (i := 2) rfl (Or.inl rfl) nd_q.1 nd_q.2) pa_nil)))) (pe_var (i := 2) rfl (Or.inl rfl) nd_q.1 nd_q.2) (pe_var (i := 1) rfl (Or.inl rfl) nd_p.1 nd_p.2)))) pss_nil) (pss_cons (ps_if (pt_cm os_lt (pe_ix ix_seq (pe_var (i := 2) rfl (Or.inl rfl) nd_q.1 nd_q.2) pe_int (fun _ _ => rfl)) pe_int (nomark _)) (pss_one (ps_ret (pe_tup (pa_cons (pe_bin (os_mul hr tk) (pe_una (us_neg hr tk) (pe_ix ix_seq (pe_var (i := 1) rfl (Or.inl rfl) nd_p.1 nd_p.2) pe_int (fun _ _ => rfl))) (pe_ix ix_seq (pe_var (i := 2) rfl (Or.inl rfl) nd_q.1 nd_q.2) pe_int (fun _ _ => rfl))) (pa_cons (pe_bin (os_mul hr tk) (pe_una (us_neg hr tk) (pe_ix ix_seq (pe_var (i := 1) rfl (Or.inl rfl) nd_p.1 nd_p.2) pe_int (fun _ _ => rfl))) (pe_ix ix_seq (pe_var (i := 2) rfl (Or.inl rfl) nd_q.1 nd_q.2) pe_int (fun _ _ => rfl))) pa_nil))))) pss_nil) (pss_one (ps_ret (pe_tup (pa_cons (pe_bin (os_mul hr tk) (pe_ix ix_seq (pe_var (i := 1) rfl (Or.inl rfl) nd_p.1 nd_p.2) pe_int (fun _ _ => rfl)) (pe_ix ix_seq (pe_var (i := 2) rfl (Or.inl rfl) nd_q.1 nd_q.2) pe_int (fun _ _ => rfl))) (pa_cons (pe_bin (os_mul hr tk) (pe_ix ix_seq (pe_var (i := 1) rfl (Or.inl rfl) nd_p.1 nd_p.2) pe_int (fun _ _ => rfl)) (pe_ix ix_seq (pe_var (i := 2) rfl (Or.inl rfl) nd_q.1 nd_q.2) pe_int (fun _ _ => rfl))) pa_nil))))))))))), ?_⟩)
  rintro ds m K E - ⟨op, a, b, c, d, rfl, h0, h5, h1, h2, k⟩
  show Ws _ _ _ [some (.int op), some (.tup [.int a, .int b]), some (.tup [.int c, .int d])] _ _
  dsimp only [cx_G, cx_K]
  have k' : ∀ x y, ownT op a b c d = x → ownB op a b c d = y → K (.tup [.int x, .int y]) m := fun x y e1 e2 => by
    subst e1 e2
    exact k
  have g1 := h1.mono (show 900 ≤ 3900 by decide)
  have g2 := h2.mono (show 900 ≤ 3900 by decide)
  have g3 := h2.neg.mono (show 900 ≤ 3900 by decide)
  walk_at "go"
  all_goals try assumption
  all_goals first
    | exact h1.bt.mulX h2.bt (by decide)
    | exact h1.bt.mulX h2.bb (by decide)
    | exact h1.bb.mulX h2.bt (by decide)
    | exact h1.bb.mulX h2.bb (by decide)
    | exact h1.bt.neg.mulX h2.bb (by decide)
    | exact h1.bb.neg.mulX h2.bt (by decide)
    | exact k' _ _ (by unfold ownT; simp [*]) (by unfold ownB; simp [*])
    | skip
def S_equals (C : Addr) : SpecD := fun ds m K _ => ∃ x a b, ds = [rq C x, .tup [.int a, .int b]] ∧ Fr 300 a b ∧ dv a b = x ∧ K (.bl true) m
theorem use_equals {C : Addr} {x : Rat} {a b : Int} {m : Mu} {K : KT} {E : Ex → Mu → Prop} (h1 : Fr 300 a b) (e : dv a b = x) (h : K (.bl true) m) : S_equals C [rq C x, .tup [.int a, .int b]] m K E := ⟨x, a, b, rfl, h1, e, h⟩
theorem ok_equals (T : Txt G C_Ratio C_Span C_ZeroBottom C_Apart C_CarryError) {f : Addr} {fd : FuncData} (F : L2.Fun G.K "_law_equals" "_law_equals" s__law_equals f fd) (b : L2.Binds G.K fd ["told", "p"] []) : Fnx G 1 f 2 (S_equals C_Ratio) [] := by
  refine fnx_of F sc__law_equals rfl b .nil rfl (fun cdv A outer s H FF hr tk => ⟨_, (pss_cons (ps_if (pt_not (pt_tr (pe_cb cs_isi rfl T.n_isinstance bt_isinstance (pa_cons (pe_var (i := 0) rfl (Or.inl rfl) nd_told.1 nd_told.2) (pa_cons (pe_glob (v := .ref C_Ratio) rfl T.mg_Ratio rfl) pa_nil))))) (pss_one (ps_ret pe_bl)) pss_nil) (pss_cons (ps_if (PW.pt (pw_or (pt_not (pt_tr (pe_cb cs_isi rfl T.n_isinstance bt_isinstance (pa_cons (pe_fld (pe_var (i := 0) rfl (Or.inl rfl) nd_told.1 nd_told.2) rfl) (pa_cons (pe_bltn (v := .ty "int") rfl T.n_int bt_int rfl) pa_nil))))) (pw_or1 (pt_tr (pe_cb cs_isi rfl T.n_isinstance bt_isinstance (pa_cons (pe_fld (pe_var (i := 0) rfl (Or.inl rfl) nd_told.1 nd_told.2) rfl) (pa_cons (pe_bltn (v := .ty "bool") rfl T.n_bool bt_bool rfl) pa_nil))))))) (pss_one (ps_ret pe_bl)) pss_nil) (pss_cons (ps_if (PW.pt (pw_or (pt_not (pt_tr (pe_cb cs_isi rfl T.n_isinstance bt_isinstance (pa_cons (pe_fld (pe_var (i := 0) rfl (Or.inl rfl) nd_told.1 nd_told.2) rfl) (pa_cons (pe_bltn (v := .ty "int") rfl T.n_int bt_int rfl) pa_nil))))) (pw_or1 (pt_tr (pe_cb cs_isi rfl T.n_isinstance bt_isinstance (pa_cons (pe_fld (pe_var (i := 0) rfl (Or.inl rfl) nd_told.1 nd_told.2) rfl) (pa_cons (pe_bltn (v := .ty "bool") rfl T.n_bool bt_bool rfl) pa_nil))))))) (pss_one (ps_ret pe_bl)) pss_nil) (pss_cons (ps_set (i := 2) sc__law_equals.nd rfl (Or.inl rfl) (pe_cb cs_abs rfl T.n_abs bt_abs (pa_cons (pe_ix ix_seq (pe_var (i := 1) rfl (Or.inl rfl) nd_p.1 nd_p.2) pe_int (fun _ _ => rfl)) pa_nil))) (pss_cons (ps_set (i := 3) sc__law_equals.nd rfl (Or.inl rfl) (pe_ix ix_seq (pe_var (i := 1) rfl (Or.inl rfl) nd_p.1 nd_p.2) pe_int (fun _ _ => rfl))) (pss_cons (ps_for (passes_of rfl) rfl (pi_range1 rfl T.n_range (pa_cons pe_int pa_nil)) (pg_name (i := 4) sc__law_equals.nd rfl (Or.inl rfl)) (pss_cons (ps_if (pt_cm (os_eq hr tk) (pe_var (i := 3) rfl (Or.inl rfl) nd_v.1 nd_v.2) pe_int (nomark _)) (pss_one ps_break) pss_nil) (pss_cons (ps_set (i := 5) sc__law_equals.nd rfl (Or.inl rfl) (pe_bin os_mod (pe_ct cs_int rfl T.n_int bt_int (pa_cons (pe_var (i := 2) rfl (Or.inl rfl) nd_u.1 nd_u.2) pa_nil)) (pe_var (i := 3) rfl (Or.inl rfl) nd_v.1 nd_v.2))) (pss_cons (ps_set (i := 2) sc__law_equals.nd rfl (Or.inl rfl) (pe_var (i := 3) rfl (Or.inl rfl) nd_v.1 nd_v.2)) (pss_one (ps_set (i := 3) sc__law_equals.nd rfl (Or.inl rfl) (pe_var (i := 5) rfl (Or.inl rfl) nd_rest.1 nd_rest.2))))))) (pss_one (ps_ret (pe_and (pe_cm (os_eq hr tk) (pe_fld (pe_var (i := 0) rfl (Or.inl rfl) nd_told.1 nd_told.2) rfl) (pe_bin os_fdiv (pe_ix ix_seq (pe_var (i := 1) rfl (Or.inl rfl) nd_p.1 nd_p.2) pe_int (fun _ _ => rfl)) (pe_var (i := 2) rfl (Or.inl rfl) nd_u.1 nd_u.2)) (nomark _)) (pe_one (pe_cm (os_eq hr tk) (pe_fld (pe_var (i := 0) rfl (Or.inl rfl) nd_told.1 nd_told.2) rfl) (pe_bin os_fdiv (pe_ix ix_seq (pe_var (i := 1) rfl (Or.inl rfl) nd_p.1 nd_p.2) pe_int (fun _ _ => rfl)) (pe_var (i := 2) rfl (Or.inl rfl) nd_u.1 nd_u.2)) (nomark _)))))))))))), ?_⟩)
  rintro ds m K E - ⟨x, a, b, rfl, h1, rfl, k⟩
  show Ws _ _ _ [some (rq C_Ratio (dv a b)), some (.tup [.int a, .int b]), none, none, none, none] _ _
  dsimp only [cx_G, cx_K]
  have R := T.R_Ratio
  have RI := R.ins
  have iR := T.is_Ratio_Ratio
  have ee := rT_dv (t := a) (b := b) (by have := h1.pos; omega)
  walk_at "go"
  refine ws_range1 ?_
  walk_at "dl"
  refine ⟨1500, fun i r' m' => m' = m ∧ ∃ (u v : Nat) (o1 o2 : Option D), r' = [some (rq C_Ratio (dv a b)), some (.tup [.int a, .int b]), some (.int u), some (.int v), o1, o2] ∧ Nat.gcd u v = Nat.gcd a.natAbs b.natAbs ∧ Eu 300 i u v, rfl, by decide, ?_, ?_, ?_⟩
  · have e : b = ((b.natAbs : Nat) : Int) := by have := h1.pos; omega
    refine ⟨rfl, a.natAbs, b.natAbs, _, _, by rw [← e]; rfl, rfl, .inl ⟨rfl, h1.bt, h1.bb⟩⟩
  · rintro n r' m' hn ⟨rfl, u, v, o1, o2, rfl, hg, he⟩
    have gz : v = 0 → (u : Int) = gc a b := fun h => by
      rw [h, Nat.gcd_zero_right] at hg
      rw [hg]
      rfl
    have gp := gc_pos (t := a) (b := b) (by have := h1.pos; omega)
    have gb : Bd 300 (gc a b) := gc_bd (by have := h1.pos; omega) h1.bb
    have q1 : a.fdiv (gc a b) = (dv a b).num := by
      rw [← ee.1, fdiv_pos gp]
      unfold rT
      rw [if_neg (by have := h1.pos; omega)]
    have q2 : b.fdiv (gc a b) = ((dv a b).den : Int) := by
      rw [← ee.2, fdiv_pos gp]
      unfold rB
      rw [if_neg (by have := h1.pos; omega)]
    have dx : ∀ z, CDivX z (gc a b) := fun z => gb.divX (by omega) (by decide)
    have uz : (v : Int) = 0 → (u : Int) = gc a b := fun h => gz (Int.natCast_eq_zero.mp h)
    walk_at "go"
    · rw [uz ‹_›]
      exact dx _
    · rw [uz ‹_›]
      exact dx _
    · rw [uz ‹_›, q2, decide_eq_true rfl]
      exact k
    · rename_i h0 h1
      rw [uz h0, q1] at h1
      exact absurd rfl h1
    · exact ‹¬ _›
    · have hy : 0 < v := by omega
      have e : ((u : Int).fmod (v : Int)) = ((u % v : Nat) : Int) := by
        rw [Int.fmod_eq_emod_of_nonneg _ (by omega)]
        exact (Int.natCast_emod u v).symm
      rw [e]
      refine ⟨v, u % v, _, _, rfl, ?_, he.step hy⟩
      rw [← hg, Nat.gcd_comm u v, Nat.gcd_rec v u, Nat.gcd_comm]
  · rintro r' m' ⟨rfl, u, v, o1, o2, rfl, hg, he⟩
    exact (he.early (by decide)).elim
def S_is_span (S C : Addr) : SpecD := fun ds m K _ => ∃ x y a b c d, ds = [spn S C x y, .tup [.int a, .int b], .tup [.int c, .int d]] ∧ Fr 300 a b ∧ Fr 300 c d ∧ dv a b = x ∧ dv c d = y ∧ K (.bl true) m
theorem use_is_span {S C : Addr} {x y : Rat} {a b c d : Int} {m : Mu} {K : KT} {E : Ex → Mu → Prop} (h1 : Fr 300 a b) (h2 : Fr 300 c d) (e1 : dv a b = x) (e2 : dv c d = y) (h : K (.bl true) m) : S_is_span S C [spn S C x y, .tup [.int a, .int b], .tup [.int c, .int d]] m K E := ⟨x, y, a, b, c, d, rfl, h1, h2, e1, e2, h⟩
local macro_rules | `(tactic| walk_at "use") => `(tactic| first | (with_reducible refine use_equals ?_ ?_ ?_) | walk_at "useq")
theorem ok_is_span (T : Txt G C_Ratio C_Span C_ZeroBottom C_Apart C_CarryError) (c__law_equals : Cal G 1 "_law_equals" 2 (S_equals C_Ratio) []) {f : Addr} {fd : FuncData} (F : L2.Fun G.K "_law_is_span" "_law_is_span" s__law_is_span f fd) (b : L2.Binds G.K fd ["told", "low", "high"] []) : Fnx G 2 f 3 (S_is_span C_Span C_Ratio) [] := by
  refine fnx_of F sc__law_is_span rfl b .nil rfl (fun cdv A outer s H FF hr tk => ⟨_, (pss_cons (ps_if (pt_not (pt_tr (pe_cb cs_isi rfl T.n_isinstance bt_isinstance (pa_cons (pe_var (i := 0) rfl (Or.inl rfl) nd_told.1 nd_told.2) (pa_cons (pe_glob (v := .ref C_Span) rfl T.mg_Span rfl) pa_nil))))) (pss_one (ps_ret pe_bl)) pss_nil) (pss_one (ps_ret (pe_and (pe_cl c__law_equals hr (by decide) tk rfl (pa_cons (pe_fld (pe_var (i := 0) rfl (Or.inl rfl) nd_told.1 nd_told.2) rfl) (pa_cons (pe_var (i := 1) rfl (Or.inl rfl) nd_low.1 nd_low.2) pa_nil))) (pe_one (pe_cl c__law_equals hr (by decide) tk rfl (pa_cons (pe_fld (pe_var (i := 0) rfl (Or.inl rfl) nd_told.1 nd_told.2) rfl) (pa_cons (pe_var (i := 2) rfl (Or.inl rfl) nd_high.1 nd_high.2) pa_nil)))))))), ?_⟩)
  rintro ds m K E - ⟨x, y, a, b, c, d, rfl, h1, h2, rfl, rfl, k⟩
  show Ws _ _ _ [some (spn C_Span C_Ratio (dv a b) (dv c d)), some (.tup [.int a, .int b]), some (.tup [.int c, .int d])] _ _
  dsimp only [cx_G, cx_K]
  have S := T.S_Span
  have SI := S.ins
  have iS := T.is_Span_Span
  walk_at "go"
  all_goals first | assumption | rfl | exact k
end
end K05
set_option Elab.async false
set_option linter.all false
set_option maxRecDepth 100000
set_option maxHeartbeats 4000000
namespace K05
open PySem PySem.Spec L2 DL
open PyProof.Rows hiding St
/-! one step, by the goal's head -/
local macro_rules | `(tactic| walk_at "sWe") => `(tactic| first
  | ((with_reducible refine we_var (d := ?d) ?hv ?hk); case hv => rfl)
  | (with_reducible first
    | refine we_cint ?_ | refine we_2 ?_ | refine we_fldF ?_ | refine we_cl0 ?_ | refine we_tup ?_ | refine we_1 ?_ | refine we_c2 ?_ | refine we_cbl ?_ | refine we_cnon ?_ | refine we_cty ?_ | refine we_cref ?_
    | refine we_op ?_ | refine we_andV ?_ | refine we_orV ?_ | refine we_notV ?_ | refine we_3 ?_ | refine we_ifx ?_ | refine we_clH ?_)
  | walk_at "useWe")
local macro_rules | `(tactic| walk_at "sWt") => `(tactic| with_reducible first | refine wt_test ?_ | refine wt_tr ?_ | refine wt_and ?_ | refine wt_or ?_ | refine wt_not ?_)
local macro_rules | `(tactic| walk_at "sWa") => `(tactic| with_reducible first | refine wa_nil ?_ | refine wa_cons ?_)
local macro_rules | `(tactic| walk_at "sW2") => `(tactic| first
  | (with_reducible first
    | refine w2_add ?_ | refine w2_sub ?_ | refine w2_mul ⟨?_, ?_⟩ | refine w2_fdiv ⟨?_, ?_⟩ | refine w2_mod ⟨?_, ?_⟩ | refine w2_pow ⟨?_, ?_⟩ | refine w2_eqI ?_ | refine w2_neI ?_ | refine w2_lt ?_ | refine w2_le ?_ | refine w2_gt ?_ | refine w2_ge ?_)
  | ((with_reducible refine w2_ixT (d := ?d) ⟨?hv, ?hk⟩); case hv => rfl)
  | ((with_reducible refine w2_ixL (d := ?d) ⟨?hv, ?hk⟩); case hv => rfl)
  | ((with_reducible refine w2_ixM (d := ?d) .head ⟨?hv, ?hk⟩); case hv => rfl)
  | (with_reducible first
    | refine w2_eqIH ?_ | refine w2_neIH ?_ | refine w2_mulH ⟨?_, ?_⟩ | refine w2_addH ?_ | refine w2_subH ?_ | refine w2_isN ?_ | refine w2_notN ?_ | refine w2_isB ?_ | refine w2_notB ?_)
  | walk_at "useW2")
local macro_rules | `(tactic| walk_at "sW1") => `(tactic| first | (with_reducible refine w1_neg ?_) | walk_at "useW2")
local macro_rules | `(tactic| walk_at "sWc") => `(tactic| first
  | (with_reducible first | refine wc_int ?_ | refine wc_abs ?_ | refine wc_min ?_ | refine wc_gcd ?_ | refine wc_isiT .int kit_ii ?_ | refine wc_isiT .int kit_ib ?_ | refine wc_len .lst ?_ | refine wc_len .tup ?_)
  | walk_at "useWc")
local macro_rules | `(tactic| walk_at "sWg") => `(tactic| with_reducible first | refine wg_name ?_ | refine wg_subM ?_ | refine wg_tup rfl ?_)
local macro_rules | `(tactic| walk_at "sWgs") => `(tactic| with_reducible first | refine wgs_cons ?_ | refine wgs_nil ?_)
local macro_rules | `(tactic| walk_at "sWs") => `(tactic| first
  | (with_reducible first | refine ws_seq ?_ | refine ws_ret ?_ | refine ws_asg ?_ | refine ws_next ?_ | refine ws_drop ?_ | refine ws_par ?_ | refine ws_par3 ?_ | refine ws_fldN ?_ | refine ws_brk ?_ | refine ws_cont ?_)
  | walk_at "useWs")
local macro_rules | `(tactic| walk_at "sX") => `(tactic| first
  | (with_reducible refine ⟨_, rfl, ?_⟩)
  | (with_reducible refine fld_top (by assumption) ?_) | (with_reducible refine fld_bottom (by assumption) ?_)
  | (with_reducible refine ⟨_, .bl, ?_⟩)
  | ((with_reducible refine ⟨?h, ?_⟩); case h => rfl)
  | (with_reducible refine ⟨_, _, rfl, ?_⟩)
  | (with_reducible refine ⟨_, _, _, rfl, ?_⟩)
  | walk_at "use"
  | (with_reducible refine setN_top (by assumption) ?_) | (with_reducible refine setN_bottom (by assumption) ?_)
  | ((with_reducible refine ⟨_, _, _, ?j, _, rfl, rfl, .head, ?h, .head, ?_⟩); case h => rfl)
  | fail)
local macro_rules | `(tactic| walk_at "br") => `(tactic| ((with_reducible refine ⟨fun hb => ?_, fun hb => ?_⟩) <;> (try simp only [decide_eq_true_eq, decide_eq_false_iff_not, Bool.not_eq_true', Bool.not_eq_false', Bool.and_eq_true, Bool.or_eq_true, reduceCtorEq, List.length_map, Bool.not_true, Bool.not_false, isNon] at hb)))
local macro_rules | `(tactic| walk_at "wif") => `(tactic| (with_reducible refine ws_if ?_))
local macro_rules | `(tactic| walk_at "st") => `(tactic| first
  | ((with_reducible show We _ _ _ _ _ _); walk_at "sWe")
  | ((with_reducible show W2 _ _ _ _ _ _ _ _); walk_at "sW2")
  | ((with_reducible show Wa _ _ _ _ _ _); walk_at "sWa")
  | ((with_reducible show Ws _ _ _ _ _ _); walk_at "sWs")
  | ((with_reducible show Wt _ _ _ _ _ _); walk_at "sWt")
  | ((with_reducible show Wc _ _ _ _ _ _ _); walk_at "sWc")
  | ((with_reducible show Wg _ _ _ _ _ _ _); walk_at "sWg")
  | ((with_reducible show W1 _ _ _ _ _ _ _); walk_at "sW1")
  | ((with_reducible show Wgs _ _ _ _ _ _ _); walk_at "sWgs")
  | walk_at "sX" | fail)
local macro_rules | `(tactic| walk_at "dl") => `(tactic| repeat (first | walk_at "st" | walk_at "wif" | fail))
local macro_rules | `(tactic| walk_at "gn") => `(tactic| repeat' (first | walk_at "st" | walk_at "br" | fail))
local macro_rules | `(tactic| walk_at "go") => `(tactic| repeat' (first | walk_at "st" | walk_at "wif" | walk_at "br" | fail))
local macro_rules | `(tactic| walk_at "useWe") => `(tactic| first | (with_reducible refine we_mt ?_) | (with_reducible refine we_ratQ ?_) | (with_reducible refine we_ratQ1 ?_) | (with_reducible refine we_spn ?_) | fail)
local macro_rules | `(tactic| walk_at "useW2") => `(tactic| first
  | (with_reducible refine w2_addO (by assumption) (by decide) .fixed .fixed ?_) | (with_reducible refine w2_subO (by assumption) (by decide) .fixed .fixed ?_) | (with_reducible refine w2_mulO (by assumption) (by decide) .fixed .fixed ?_) | (with_reducible refine w1_negO (by assumption) (by decide) .fixed ?_) | (with_reducible refine w2_inO (by assumption) (by decide) .fixed ?_) | fail)
local macro_rules | `(tactic| walk_at "useWc") => `(tactic| fail)
local macro_rules | `(tactic| walk_at "useWs") => `(tactic| first | (with_reducible refine ws_rs0 ?_) | (with_reducible refine ws_rs ?_) | fail)
local macro_rules | `(tactic| walk_at "use") => `(tactic| fail)

/-! Ratio and Span by numbers: their promises used -/
local macro_rules | `(tactic| walk_at "useq") => `(tactic| first
  | (with_reducible refine fld_low (by assumption) ?_) | (with_reducible refine fld_high (by assumption) ?_)
  | (with_reducible refine mt_of0 (by assumption) (by decide) ?_) | (with_reducible refine RatQ.mk ?_ ?_ ?_)
  | (with_reducible refine use_qcmp ?_ ?_ ?_) | (with_reducible refine use_qsign ?_)
  | (with_reducible refine use_qleast ?_ ?_ ?_) | (with_reducible refine use_qgreat ?_ ?_ ?_)
  | (with_reducible refine use_qadd ?_ ?_ ?_) | (with_reducible refine use_qsub ?_ ?_ ?_) | (with_reducible refine use_qmul ?_ ?_ ?_) | (with_reducible refine use_qdiv ?_ ?_ ?_ ?_) | (with_reducible refine use_qneg ?_ ?_)
  | (with_reducible refine SpnA.mk ?_ ?_ ?_ ?_)
  | (with_reducible refine use_s2 ?_ ?_) | (with_reducible refine use_sneg ?_ ?_ ?_ ?_) | (with_reducible refine use_scont ?_ ?_ ?_ ?_) | (with_reducible refine use_sdiv ?_ ?_ ?_)
  | (with_reducible refine setN_low (by assumption) ?_) | (with_reducible refine setN_high (by assumption) ?_)
  | fail)

theorem fmin_take {a v : Rat} {l : List Rat} {k : Nat} (h : l[k]? = some v) : fmin a (l.take (k + 1)) = if v < fmin a (l.take k) then v else fmin a (l.take k) := by
  unfold fmin
  rw [List.take_add_one, h, Option.toList_some, List.foldl_append]
  rfl
theorem fmax_take {a v : Rat} {l : List Rat} {k : Nat} (h : l[k]? = some v) : fmax a (l.take (k + 1)) = if fmax a (l.take k) < v then v else fmax a (l.take k) := by
  unfold fmax
  rw [List.take_add_one, h, Option.toList_some, List.foldl_append]
  rfl
theorem own_fr {op a b c d : Int} {n : Nat} (h : Fr n a b) (k : Fr n c d) (z : op = 5 → c ≠ 0) (h0 : 0 ≤ op) (h5 : op ≤ 5) : Fr (n + n + 1) (ownT op a b c d) (ownB op a b c d) := by
  have e : op = 0 ∨ op = 1 ∨ op = 2 ∨ op = 3 ∨ op = 4 ∨ op = 5 := by omega
  rcases e with rfl | rfl | rfl | rfl | rfl | rfl
  · exact h.plus k
  · exact h.plus k.neg
  · exact (h.mul k).mono (by omega)
  · show Fr _ (if dv c d < dv a b then c else a) (if dv c d < dv a b then d else b)
    split
    · exact k.mono (by omega)
    · exact h.mono (by omega)
  · show Fr _ (if dv a b < dv c d then c else a) (if dv a b < dv c d then d else b)
    split
    · exact k.mono (by omega)
    · exact h.mono (by omega)
  · show Fr _ (if c < 0 then -a * d else a * d) (if c < 0 then -b * c else b * c)
    have z := z rfl
    split
    · refine ⟨?_, (h.bt.neg.mul k.bb).mono (by omega), (h.bb.neg.mul k.bt).mono (by omega)⟩
      have := Int.mul_pos h.pos (show 0 < -c by omega)
      rw [Int.neg_mul, ← Int.mul_neg]
      exact this
    · exact ⟨Int.mul_pos h.pos (by omega), (h.bt.mul k.bb).mono (by omega), (h.bb.mul k.bt).mono (by omega)⟩
def fOwn (op : Int) : D → D
  | .tup [.tup [.int a, .int b], .tup [.int c, .int d]] => .tup [.int (ownT op a b c d), .int (ownB op a b c d)]
  | d => d
section
variable {G : Gx} {C_Ratio C_Span C_ZeroBottom C_Apart C_CarryError : Addr}
theorem fit_op {op : Int} {x0 x1 y0 y1 x y : Rat} (h : Btw x0 x1 y0 y1 x y) (h0 : 0 ≤ op) (h5 : op ≤ 5) (n : op = 5 → 0 < y0 ∨ y1 < 0) : low4 op x0 x1 y0 y1 ≤ opq op x y ∧ opq op x y ≤ high4 op x0 x1 y0 y1 := by
  have e : op = 0 ∨ op = 1 ∨ op = 2 ∨ op = 3 ∨ op = 4 ∨ op = 5 := by omega
  rcases e with rfl | rfl | rfl | rfl | rfl | rfl
  · exact (fit0 h).2.2
  · exact (fit1 h).2.2
  · exact (fit2 h).2.2
  · exact (fit3 h).2.2
  · exact (fit4 h).2.2
  · exact (fit5 h (n rfl)).2.2
def S_asked (S C : Addr) : SpecD := fun ds m K _ => ∃ op x0 x1 y0 y1, ds = [.int op, spn S C x0 x1, spn S C y0 y1] ∧ 0 ≤ op ∧ op ≤ 5 ∧ Two x0 x1 y0 y1 ∧ (op = 5 → 0 < y0 ∨ y1 < 0) ∧ K (spn S C (low4 op x0 x1 y0 y1) (high4 op x0 x1 y0 y1)) m
theorem use_asked {S C : Addr} {op : Int} {x0 x1 y0 y1 : Rat} {m : Mu} {K : KT} {E : Ex → Mu → Prop} (h0 : 0 ≤ op) (h5 : op ≤ 5) (t : Two x0 x1 y0 y1) (n : op = 5 → 0 < y0 ∨ y1 < 0) (h : K (spn S C (low4 op x0 x1 y0 y1) (high4 op x0 x1 y0 y1)) m) : S_asked S C [.int op, spn S C x0 x1, spn S C y0 y1] m K E := ⟨op, x0, x1, y0, y1, rfl, h0, h5, t, n, h⟩
local macro_rules | `(tactic| walk_at "use") => `(tactic| first | walk_at "useq" | fail)
theorem ok_asked (T : Txt G C_Ratio C_Span C_ZeroBottom C_Apart C_CarryError) (o_Span___add__ : Opr G 4 C_Span "__add__" 2 (S_s2 C_Span C_Ratio addL addH)) (o_Span___sub__ : Opr G 4 C_Span "__sub__" 2 (S_s2 C_Span C_Ratio subL subH)) (o_Span___mul__ : Opr G 4 C_Span "__mul__" 2 (S_s2 C_Span C_Ratio mulL mulH)) (m_Span_least : Met G 4 C_Span ["low", "high"] "least" 2 (S_s2 C_Span C_Ratio leL leH) []) (m_Span_greatest : Met G 4 C_Span ["low", "high"] "greatest" 2 (S_s2 C_Span C_Ratio grL grH) []) (m_Span_divided : Met G 5 C_Span ["low", "high"] "divided" 2 (S_sdiv C_Span C_Ratio C_ZeroBottom) []) {f : Addr} {fd : FuncData} (F : L2.Fun G.K "_law_asked" "_law_asked" s__law_asked f fd) (b : L2.Binds G.K fd ["op", "a", "b"] []) : Fnx G 6 f 3 (S_asked C_Span C_Ratio) [] := by
  refine fnx_of F sc__law_asked rfl b .nil rfl (fun cdv A outer s H FF hr tk => ⟨_, (pss_cons (ps_if (pt_cm (os_eq hr tk) (pe_var (i := 0) rfl (Or.inl rfl) nd_op.1 nd_op.2) pe_int (nomark _)) (pss_one (ps_ret (pe_bin (os_add hr tk) (pe_var (i := 1) rfl (Or.inl rfl) nd_a.1 nd_a.2) (pe_var (i := 2) rfl (Or.inl rfl) nd_b.1 nd_b.2)))) pss_nil) (pss_cons (ps_if (pt_cm (os_eq hr tk) (pe_var (i := 0) rfl (Or.inl rfl) nd_op.1 nd_op.2) pe_int (nomark _)) (pss_one (ps_ret (pe_bin (os_sub hr tk) (pe_var (i := 1) rfl (Or.inl rfl) nd_a.1 nd_a.2) (pe_var (i := 2) rfl (Or.inl rfl) nd_b.1 nd_b.2)))) pss_nil) (pss_cons (ps_if (pt_cm (os_eq hr tk) (pe_var (i := 0) rfl (Or.inl rfl) nd_op.1 nd_op.2) pe_int (nomark _)) (pss_one (ps_ret (pe_bin (os_mul hr tk) (pe_var (i := 1) rfl (Or.inl rfl) nd_a.1 nd_a.2) (pe_var (i := 2) rfl (Or.inl rfl) nd_b.1 nd_b.2)))) pss_nil) (pss_cons (ps_if (pt_cm (os_eq hr tk) (pe_var (i := 0) rfl (Or.inl rfl) nd_op.1 nd_op.2) pe_int (nomark _)) (pss_one (ps_ret (pe_mth hr tk (pe_var (i := 1) rfl (Or.inl rfl) nd_a.1 nd_a.2) (pa_cons (pe_var (i := 2) rfl (Or.inl rfl) nd_b.1 nd_b.2) pa_nil)))) pss_nil) (pss_cons (ps_if (pt_cm (os_eq hr tk) (pe_var (i := 0) rfl (Or.inl rfl) nd_op.1 nd_op.2) pe_int (nomark _)) (pss_one (ps_ret (pe_mth hr tk (pe_var (i := 1) rfl (Or.inl rfl) nd_a.1 nd_a.2) (pa_cons (pe_var (i := 2) rfl (Or.inl rfl) nd_b.1 nd_b.2) pa_nil)))) pss_nil) (pss_one (ps_ret (pe_mth hr tk (pe_var (i := 1) rfl (Or.inl rfl) nd_a.1 nd_a.2) (pa_cons (pe_var (i := 2) rfl (Or.inl rfl) nd_b.1 nd_b.2) pa_nil))))))))), ?_⟩)
  rintro ds m K E - ⟨op, x0, x1, y0, y1, rfl, h0, h5, t, n, k⟩
  show Ws _ _ _ [some (.int op), some (spn C_Span C_Ratio x0 x1), some (spn C_Span C_Ratio y0 y1)] _ _
  dsimp only [cx_G, cx_K]
  have bt : Btw x0 x1 y0 y1 x0 y0 := ⟨Rat.le_refl, t.lx, Rat.le_refl, t.ly⟩
  have k0 : op = 0 → K (spn C_Span C_Ratio (addL x0 x1 y0 y1) (addH x0 x1 y0 y1)) m := fun e => by
    subst e
    rw [(fit0 bt).1, (fit0 bt).2.1]
    exact k
  have k1 : op = 1 → K (spn C_Span C_Ratio (subL x0 x1 y0 y1) (subH x0 x1 y0 y1)) m := fun e => by
    subst e
    rw [(fit1 bt).1, (fit1 bt).2.1]
    exact k
  have k2 : op = 2 → K (spn C_Span C_Ratio (mulL x0 x1 y0 y1) (mulH x0 x1 y0 y1)) m := fun e => by
    subst e
    rw [(fit2 bt).1, (fit2 bt).2.1]
    exact k
  have k3 : op = 3 → K (spn C_Span C_Ratio (leL x0 x1 y0 y1) (leH x0 x1 y0 y1)) m := fun e => by
    subst e
    rw [(fit3 bt).1, (fit3 bt).2.1]
    exact k
  have k4 : op = 4 → K (spn C_Span C_Ratio (grL x0 x1 y0 y1) (grH x0 x1 y0 y1)) m := fun e => by
    subst e
    rw [(fit4 bt).1, (fit4 bt).2.1]
    exact k
  have k5 : op = 5 → (0 < y0 ∨ y1 < 0) ∧ K (spn C_Span C_Ratio (divL x0 x1 y0 y1) (divH x0 x1 y0 y1)) m := fun e => by
    refine ⟨n e, ?_⟩
    rw [(fit5 bt (n e)).1, (fit5 bt (n e)).2.1]
    subst e
    exact k
  walk_at "go"
  all_goals first
    | assumption
    | exact k0 ‹_›
    | exact k1 ‹_›
    | exact k2 ‹_›
    | exact k3 ‹_›
    | exact k4 ‹_›
    | exact (k5 (by omega)).1
    | exact (k5 (by omega)).2
/-- the two spans, the numbers between, of a size -/
structure Law2 (a b c d e f g h x u y v : Int) : Prop where
  s0 : Fr 82 a b
  s1 : Fr 82 c d
  t0 : Fr 82 e f
  t1 : Fr 82 g h
  fx : Fr 300 x u
  fy : Fr 300 y v
  b : Btw (dv a b) (dv c d) (dv e f) (dv g h) (dv x u) (dv y v)
abbrev pr (a b : Int) : D := .tup [.int a, .int b]
def S_fits (S C : Addr) : SpecD := fun ds m K _ => ∃ op a b c d e f g h x u y v, ds = [spn S C (low4 op (dv a b) (dv c d) (dv e f) (dv g h)) (high4 op (dv a b) (dv c d) (dv e f) (dv g h)), .int op, .tup [pr a b, pr c d], .tup [pr e f, pr g h], pr x u, pr y v] ∧ 0 ≤ op ∧ op ≤ 5 ∧ Law2 a b c d e f g h x u y v ∧ (op = 5 → 0 < dv e f ∨ dv g h < 0) ∧ K (.bl true) m
theorem use_fits {S C : Addr} {op a b c d e f g h x u y v : Int} {m : Mu} {K : KT} {E : Ex → Mu → Prop} (h0 : 0 ≤ op) (h5 : op ≤ 5) (l : Law2 a b c d e f g h x u y v) (n : op = 5 → 0 < dv e f ∨ dv g h < 0) (k : K (.bl true) m) : S_fits S C [spn S C (low4 op (dv a b) (dv c d) (dv e f) (dv g h)) (high4 op (dv a b) (dv c d) (dv e f) (dv g h)), .int op, .tup [pr a b, pr c d], .tup [pr e f, pr g h], pr x u, pr y v] m K E := ⟨op, a, b, c, d, e, f, g, h, x, u, y, v, rfl, h0, h5, l, n, k⟩
local macro_rules | `(tactic| walk_at "use") => `(tactic| first | (with_reducible refine use_less ?_ ?_ ?_) | (with_reducible refine use_own ?_ ?_ ?_ ?_ ?_) | (with_reducible refine use_is_span ?_ ?_ ?_ ?_ ?_) | walk_at "useq" | fail)
theorem ok_fits (T : Txt G C_Ratio C_Span C_ZeroBottom C_Apart C_CarryError) (k_Ratio : Mak G 1 "Ratio" C_Ratio 3 (S_init C_Ratio) []) (o_Span___contains__ : Opr G 2 C_Span "__contains__" 2 (S_scont C_Span C_Ratio)) (c__law_own : Cal G 2 "_law_own" 3 S_own []) (c__law_less : Cal G 1 "_law_less" 2 S_less []) (c__law_is_span : Cal G 2 "_law_is_span" 3 (S_is_span C_Span C_Ratio) []) {f : Addr} {fd : FuncData} (F : L2.Fun G.K "_law_fits" "_law_fits" s__law_fits f fd) (b : L2.Binds G.K fd ["told", "op", "s", "t", "x", "y"] []) : Fnx G 3 f 6 (S_fits C_Span C_Ratio) [] := by
  refine fnx_of F sc__law_fits rfl b .nil rfl (fun cdv A outer s H FF hr tk => ⟨_, (pss_cons (ps_set (i := 6) sc__law_fits.nd rfl (Or.inl rfl) (pe_lst (pa_cons (pe_tup (pa_cons (pe_ix ix_seq (pe_var (i := 2) rfl (Or.inl rfl) nd_s.1 nd_s.2) pe_int (fun _ _ => rfl)) (pa_cons (pe_ix ix_seq (pe_var (i := 3) rfl (Or.inl rfl) nd_t.1 nd_t.2) pe_int (fun _ _ => rfl)) pa_nil))) (pa_cons (pe_tup (pa_cons (pe_ix ix_seq (pe_var (i := 2) rfl (Or.inl rfl) nd_s.1 nd_s.2) pe_int (fun _ _ => rfl)) (pa_cons (pe_ix ix_seq (pe_var (i := 3) rfl (Or.inl rfl) nd_t.1 nd_t.2) pe_int (fun _ _ => rfl)) pa_nil))) (pa_cons (pe_tup (pa_cons (pe_ix ix_seq (pe_var (i := 2) rfl (Or.inl rfl) nd_s.1 nd_s.2) pe_int (fun _ _ => rfl)) (pa_cons (pe_ix ix_seq (pe_var (i := 3) rfl (Or.inl rfl) nd_t.1 nd_t.2) pe_int (fun _ _ => rfl)) pa_nil))) (pa_cons (pe_tup (pa_cons (pe_ix ix_seq (pe_var (i := 2) rfl (Or.inl rfl) nd_s.1 nd_s.2) pe_int (fun _ _ => rfl)) (pa_cons (pe_ix ix_seq (pe_var (i := 3) rfl (Or.inl rfl) nd_t.1 nd_t.2) pe_int (fun _ _ => rfl)) pa_nil))) pa_nil)))))) (pss_cons (ps_setLc (i := 7) (own := [("two", 8)]) (g := gName 8) (tt := tYes) rfl sc__law_fits.nd rfl rfl (sw_true rfl rfl rfl (by decide +kernel)) (pi_seq (pe_var (i := 6) rfl (Or.inl rfl) nd_corners.1 nd_corners.2)) (blkOk_by (N := N__law_fits) (sc := defScope s__law_fits) (by decide +kernel)) (fun _ _ _ _ _ => pg_name (i := 8) sc__law_fits.nd rfl (Or.inl rfl)) (fun _ _ _ _ _ => pts_nil) (fun _ _ _ _ _ => (pe_cl c__law_own hr (by decide) takes0N rfl (pa_cons (pe_var (i := 1) rfl (Or.inr (Or.inl rfl)) nd_op.1 nd_op.2) (pa_cons (pe_ix (r := rIx G.K) ix_seq (pe_var (i := 8) rfl (Or.inl rfl) nd_two.1 nd_two.2) pe_int (fun _ _ => rfl)) (pa_cons (pe_ix (r := rIx G.K) ix_seq (pe_var (i := 8) rfl (Or.inl rfl) nd_two.1 nd_two.2) pe_int (fun _ _ => rfl)) pa_nil)))))) (pss_cons (ps_set (i := 9) sc__law_fits.nd rfl (Or.inl rfl) (pe_ix ix_seq (pe_var (i := 7) rfl (Or.inl rfl) nd_found.1 nd_found.2) pe_int (fun _ _ => rfl))) (pss_cons (ps_set (i := 10) sc__law_fits.nd rfl (Or.inl rfl) (pe_ix ix_seq (pe_var (i := 7) rfl (Or.inl rfl) nd_found.1 nd_found.2) pe_int (fun _ _ => rfl))) (pss_cons (ps_for (passes_of rfl) rfl (pi_seq (pe_var (i := 7) rfl (Or.inl rfl) nd_found.1 nd_found.2)) (pg_name (i := 11) sc__law_fits.nd rfl (Or.inl rfl)) (pss_cons (ps_if (pt_tr (pe_cl c__law_less hr (by decide) tk rfl (pa_cons (pe_var (i := 11) rfl (Or.inl rfl) nd_p.1 nd_p.2) (pa_cons (pe_var (i := 9) rfl (Or.inl rfl) nd_low.1 nd_low.2) pa_nil)))) (pss_one (ps_set (i := 9) sc__law_fits.nd rfl (Or.inl rfl) (pe_var (i := 11) rfl (Or.inl rfl) nd_p.1 nd_p.2))) pss_nil) (pss_one (ps_if (pt_tr (pe_cl c__law_less hr (by decide) tk rfl (pa_cons (pe_var (i := 10) rfl (Or.inl rfl) nd_high.1 nd_high.2) (pa_cons (pe_var (i := 11) rfl (Or.inl rfl) nd_p.1 nd_p.2) pa_nil)))) (pss_one (ps_set (i := 10) sc__law_fits.nd rfl (Or.inl rfl) (pe_var (i := 11) rfl (Or.inl rfl) nd_p.1 nd_p.2))) pss_nil)))) (pss_cons (ps_if (pt_not (pt_tr (pe_cl c__law_is_span hr (by decide) tk rfl (pa_cons (pe_var (i := 0) rfl (Or.inl rfl) nd_told.1 nd_told.2) (pa_cons (pe_var (i := 9) rfl (Or.inl rfl) nd_low.1 nd_low.2) (pa_cons (pe_var (i := 10) rfl (Or.inl rfl) nd_high.1 nd_high.2) pa_nil)))))) (pss_one (ps_ret pe_bl)) pss_nil) (pss_cons (ps_set (i := 11) sc__law_fits.nd rfl (Or.inl rfl) (pe_cl c__law_own hr (by decide) tk rfl (pa_cons (pe_var (i := 1) rfl (Or.inr (Or.inl rfl)) nd_op.1 nd_op.2) (pa_cons (pe_var (i := 4) rfl (Or.inl rfl) nd_x.1 nd_x.2) (pa_cons (pe_var (i := 5) rfl (Or.inl rfl) nd_y.1 nd_y.2) pa_nil))))) (pss_one (ps_ret (pe_cm os_is (pe_cm (os_inO hr tk) (pe_mak k_Ratio hr (by decide) tk rfl (pa_cons (pe_ix ix_seq (pe_var (i := 11) rfl (Or.inl rfl) nd_p.1 nd_p.2) pe_int (fun _ _ => rfl)) (pa_cons (pe_ix ix_seq (pe_var (i := 11) rfl (Or.inl rfl) nd_p.1 nd_p.2) pe_int (fun _ _ => rfl)) pa_nil))) (pe_var (i := 0) rfl (Or.inl rfl) nd_told.1 nd_told.2) rfl) pe_bl (nomark _))))))))))), ?_⟩)
  rintro ds m K E - ⟨op, a, b, c, d, e, f, g, h, x, u, y, v, rfl, h0, h5, l, n, k⟩
  have q0 := l.s0.mono (show 82 ≤ 900 by decide)
  have q1 := l.s1.mono (show 82 ≤ 900 by decide)
  have q2 := l.t0.mono (show 82 ≤ 900 by decide)
  have q3 := l.t1.mono (show 82 ≤ 900 by decide)
  have q4 := l.fx.mono (show 300 ≤ 900 by decide)
  have q5 := l.fy.mono (show 300 ≤ 900 by decide)
  let lo := low4 op (dv a b) (dv c d) (dv e f) (dv g h)
  let hi := high4 op (dv a b) (dv c d) (dv e f) (dv g h)
  let co : D := .lst [.tup [pr a b, pr e f], .tup [pr a b, pr g h], .tup [pr c d, pr e f], .tup [pr c d, pr g h]]
  let fo : D := .lst [pr (ownT op a b e f) (ownB op a b e f), pr (ownT op a b g h) (ownB op a b g h), pr (ownT op c d e f) (ownB op c d e f), pr (ownT op c d g h) (ownB op c d g h)]
  let R0 : D → D → Option D → Rho := fun x1 x2 x3 => [some (spn C_Span C_Ratio lo hi), some (.int op), some (.tup [pr a b, pr c d]), some (.tup [pr e f, pr g h]), some (pr x u), some (pr y v), some co, some fo, none, some x1, some x2, x3]
  show Ws _ _ _ [some (spn C_Span C_Ratio lo hi), some (.int op), some (.tup [pr a b, pr c d]), some (.tup [pr e f, pr g h]), some (pr x u), some (pr y v), none, none, none, none, none, none] _ _
  dsimp only [cx_G, cx_K]
  have z : op = 5 → e ≠ 0 ∧ g ≠ 0 := fun h5 => by
    have l1 := l.b.h3
    have l2 := l.b.h4
    have lt : dv e f ≤ dv g h := Rat.le_trans l1 l2
    have e1 : dv e f ≠ 0 := by
      have := n h5
      grind
    have e2 : dv g h ≠ 0 := by
      have := n h5
      grind
    exact ⟨fun w => e1 ((dv_zero (by have := l.t0.pos; omega)).mpr w), fun w => e2 ((dv_zero (by have := l.t1.pos; omega)).mpr w)⟩
  have w00 : Fr 165 (ownT op a b e f) (ownB op a b e f) := own_fr l.s0 l.t0 (fun w => (z w).1) h0 h5
  have w01 : Fr 165 (ownT op a b g h) (ownB op a b g h) := own_fr l.s0 l.t1 (fun w => (z w).2) h0 h5
  have w10 : Fr 165 (ownT op c d e f) (ownB op c d e f) := own_fr l.s1 l.t0 (fun w => (z w).1) h0 h5
  have w11 : Fr 165 (ownT op c d g h) (ownB op c d g h) := own_fr l.s1 l.t1 (fun w => (z w).2) h0 h5
  have v00 := own_val (op := op) (a := a) l.s0.pos l.t0.pos h0 h5 (fun w => (z w).1)
  have v01 := own_val (op := op) (a := a) l.s0.pos l.t1.pos h0 h5 (fun w => (z w).2)
  have v10 := own_val (op := op) (a := c) l.s1.pos l.t0.pos h0 h5 (fun w => (z w).1)
  have v11 := own_val (op := op) (a := c) l.s1.pos l.t1.pos h0 h5 (fun w => (z w).2)
  let vs : List Rat := [opq op (dv a b) (dv e f), opq op (dv a b) (dv g h), opq op (dv c d) (dv e f), opq op (dv c d) (dv g h)]
  walk_at "gn"
  refine we_lst ?_
  walk_at "gn"
  refine we_lcmN (f := fOwn op) ?_
  walk_at "gn"
  refine ⟨_, .lst, rfl, ?_, ?_⟩
  · intro el hel q K2 hk
    simp only [List.mem_cons, List.not_mem_nil, or_false] at hel
    rcases hel with rfl | rfl | rfl | rfl
    all_goals
      walk_at "gn"
      all_goals first | assumption | exact hk
  simp only [List.map_cons, List.map_nil, fOwn]
  walk_at "gn"
  refine ws_seqI ?_
  walk_at "gn"
  refine ⟨_, fun k r' m' => m' = m ∧ ∃ (lt lb ht hb : Int) (o : Option D), r' = R0 (pr lt lb) (pr ht hb) o ∧ Fr 165 lt lb ∧ Fr 165 ht hb ∧ dv lt lb = fmin (opq op (dv a b) (dv e f)) (vs.take k) ∧ dv ht hb = fmax (opq op (dv a b) (dv e f)) (vs.take k), .lst, ?_, ?_, ?_⟩
  · exact ⟨rfl, _, _, _, _, _, rfl, w00, w00, v00, v00⟩
  · rintro j el r' m' hj ⟨rfl, lt, lb, ht, hb, o, rfl, f1, f2, e1, e2⟩
    have ⟨T, B, eT, fT, hT⟩ : ∃ T B, el = pr T B ∧ Fr 165 T B ∧ vs[j]? = some (dv T B) := by
      rcases j with _ | _ | _ | _ | j
      · exact ⟨_, _, (Option.some.inj hj).symm, w00, by rw [v00]; rfl⟩
      · exact ⟨_, _, (Option.some.inj hj).symm, w01, by rw [v01]; rfl⟩
      · exact ⟨_, _, (Option.some.inj hj).symm, w10, by rw [v10]; rfl⟩
      · exact ⟨_, _, (Option.some.inj hj).symm, w11, by rw [v11]; rfl⟩
      · exact nomatch hj
    subst eT
    have m1 := fmin_take (a := opq op (dv a b) (dv e f)) hT
    have m2 := fmax_take (a := opq op (dv a b) (dv e f)) hT
    rw [← e1] at m1
    rw [← e2] at m2
    have g0 := fT.mono (show 165 ≤ 3900 by decide)
    have g1 := f1.mono (show 165 ≤ 3900 by decide)
    have g2 := f2.mono (show 165 ≤ 3900 by decide)
    have fin : ∀ (lt' lb' ht' hb' : Int), Fr 165 lt' lb' → Fr 165 ht' hb' → dv lt' lb' = (if dv T B < dv lt lb then dv T B else dv lt lb) → dv ht' hb' = (if dv ht hb < dv T B then dv T B else dv ht hb) →
        (m' = m' ∧ ∃ (lt lb ht hb : Int) (o : Option D), R0 (pr lt' lb') (pr ht' hb') (some (pr T B)) = R0 (pr lt lb) (pr ht hb) o ∧ Fr 165 lt lb ∧ Fr 165 ht hb ∧ dv lt lb = fmin (opq op (dv a b) (dv e f)) (vs.take (j + 1)) ∧ dv ht hb = fmax (opq op (dv a b) (dv e f)) (vs.take (j + 1))) :=
      fun lt' lb' ht' hb' a1 a2 a3 a4 => ⟨rfl, lt', lb', ht', hb', _, rfl, a1, a2, a3.trans m1.symm, a4.trans m2.symm⟩
    walk_at "go"
    all_goals first
      | assumption
      | exact (fin _ _ _ _ fT fT (by rw [if_pos ‹_›]) (by rw [if_pos ‹_›])).2
      | exact (fin _ _ _ _ fT f2 (by rw [if_pos ‹_›]) (by rw [if_neg ‹_›])).2
      | exact (fin _ _ _ _ f1 fT (by rw [if_neg ‹_›]) (by rw [if_pos ‹_›])).2
      | exact (fin _ _ _ _ f1 f2 (by rw [if_neg ‹_›]) (by rw [if_neg ‹_›])).2
      | skip
  · rintro r' m' ⟨rfl, lt, lb, ht, hb, o, rfl, f1, f2, e1, e2⟩
    have fo := fit_op (op := op) l.b h0 h5 n
    have wx : Fr 900 (ownT op x u y v) (ownB op x u y v) := (own_fr l.fx l.fy (fun w => fun y0 => by
      have p := n w
      have l1 := l.b.h3
      have l2 := l.b.h4
      have : dv y v = 0 := (dv_zero (by have := l.fy.pos; omega)).mpr y0
      grind) h0 h5).mono (by decide)
    have vx := own_val (op := op) (a := x) l.fx.pos l.fy.pos h0 h5 (fun w => fun y0 => by
      have p := n w
      have l1 := l.b.h3
      have l2 := l.b.h4
      have : dv y v = 0 := (dv_zero (by have := l.fy.pos; omega)).mpr y0
      grind)
    have ql : Qb 3900 lo := by
      show Qb 3900 (low4 op (dv a b) (dv c d) (dv e f) (dv g h))
      rw [show low4 op (dv a b) (dv c d) (dv e f) (dv g h) = dv lt lb from e1.symm]
      exact f1.qb.mono (by decide)
    have qh : Qb 3900 hi := by
      show Qb 3900 (high4 op (dv a b) (dv c d) (dv e f) (dv g h))
      rw [show high4 op (dv a b) (dv c d) (dv e f) (dv g h) = dv ht hb from e2.symm]
      exact f2.qb.mono (by decide)
    have fin : (pF K).rt (.bl (decide (decide (lo ≤ dv (ownT op x u y v) (ownB op x u y v) ∧ dv (ownT op x u y v) (ownB op x u y v) ≤ hi) = true))) m' := by
      have : decide (lo ≤ dv (ownT op x u y v) (ownB op x u y v) ∧ dv (ownT op x u y v) (ownB op x u y v) ≤ hi) = true := by
        rw [decide_eq_true_eq, vx]
        exact fo
      rw [this]
      exact k
    have f1' := f1.mono (show 165 ≤ 300 by decide)
    have f2' := f2.mono (show 165 ≤ 300 by decide)
    walk_at "go"
    all_goals first
      | assumption
      | exact e1
      | exact e2
      | exact Int.ne_of_gt wx.pos
      | exact wx.bb.mono (by decide)
      | exact wx.qb.mono (by decide)
      | skip
end
end K05
set_option Elab.async false
set_option linter.all false
set_option maxRecDepth 100000
set_option maxHeartbeats 4000000
namespace K05
open PySem PySem.Spec L2 DL
open PyProof.Rows hiding St
/-! one step, by the goal's head -/
local macro_rules | `(tactic| walk_at "sWe") => `(tactic| first
  | ((with_reducible refine we_var (d := ?d) ?hv ?hk); case hv => rfl)
  | (with_reducible first
    | refine we_cint ?_ | refine we_2 ?_ | refine we_fldF ?_ | refine we_cl0 ?_ | refine we_tup ?_ | refine we_1 ?_ | refine we_c2 ?_ | refine we_cbl ?_ | refine we_cnon ?_ | refine we_cty ?_ | refine we_cref ?_
    | refine we_op ?_ | refine we_andV ?_ | refine we_orV ?_ | refine we_notV ?_ | refine we_3 ?_ | refine we_ifx ?_ | refine we_clH ?_)
  | walk_at "useWe")
local macro_rules | `(tactic| walk_at "sWt") => `(tactic| with_reducible first | refine wt_test ?_ | refine wt_tr ?_ | refine wt_and ?_ | refine wt_or ?_ | refine wt_not ?_)
local macro_rules | `(tactic| walk_at "sWa") => `(tactic| with_reducible first | refine wa_nil ?_ | refine wa_cons ?_)
local macro_rules | `(tactic| walk_at "sW2") => `(tactic| first
  | (with_reducible first
    | refine w2_add ?_ | refine w2_sub ?_ | refine w2_mul ⟨?_, ?_⟩ | refine w2_fdiv ⟨?_, ?_⟩ | refine w2_mod ⟨?_, ?_⟩ | refine w2_pow ⟨?_, ?_⟩ | refine w2_eqI ?_ | refine w2_neI ?_ | refine w2_lt ?_ | refine w2_le ?_ | refine w2_gt ?_ | refine w2_ge ?_)
  | ((with_reducible refine w2_ixT (d := ?d) ⟨?hv, ?hk⟩); case hv => rfl)
  | ((with_reducible refine w2_ixL (d := ?d) ⟨?hv, ?hk⟩); case hv => rfl)
  | ((with_reducible refine w2_ixM (d := ?d) .head ⟨?hv, ?hk⟩); case hv => rfl)
  | (with_reducible first
    | refine w2_eqIH ?_ | refine w2_neIH ?_ | refine w2_mulH ⟨?_, ?_⟩ | refine w2_addH ?_ | refine w2_subH ?_ | refine w2_isN ?_ | refine w2_notN ?_ | refine w2_isB ?_ | refine w2_notB ?_)
  | walk_at "useW2")
local macro_rules | `(tactic| walk_at "sW1") => `(tactic| first | (with_reducible refine w1_neg ?_) | walk_at "useW2")
local macro_rules | `(tactic| walk_at "sWc") => `(tactic| first
  | (with_reducible first | refine wc_int ?_ | refine wc_abs ?_ | refine wc_min ?_ | refine wc_gcd ?_ | refine wc_isiT .int kit_ii ?_ | refine wc_isiT .int kit_ib ?_ | refine wc_len .lst ?_ | refine wc_len .tup ?_)
  | walk_at "useWc")
local macro_rules | `(tactic| walk_at "sWg") => `(tactic| with_reducible first | refine wg_name ?_ | refine wg_subM ?_ | refine wg_tup rfl ?_)
local macro_rules | `(tactic| walk_at "sWgs") => `(tactic| with_reducible first | refine wgs_cons ?_ | refine wgs_nil ?_)
local macro_rules | `(tactic| walk_at "sWs") => `(tactic| first
  | (with_reducible first | refine ws_seq ?_ | refine ws_ret ?_ | refine ws_asg ?_ | refine ws_next ?_ | refine ws_drop ?_ | refine ws_par ?_ | refine ws_par3 ?_ | refine ws_fldN ?_ | refine ws_brk ?_ | refine ws_cont ?_)
  | walk_at "useWs")
local macro_rules | `(tactic| walk_at "sX") => `(tactic| first
  | (with_reducible refine ⟨_, rfl, ?_⟩)
  | (with_reducible refine fld_top (by assumption) ?_) | (with_reducible refine fld_bottom (by assumption) ?_)
  | (with_reducible refine ⟨_, .bl, ?_⟩)
  | ((with_reducible refine ⟨?h, ?_⟩); case h => rfl)
  | (with_reducible refine ⟨_, _, rfl, ?_⟩)
  | (with_reducible refine ⟨_, _, _, rfl, ?_⟩)
  | walk_at "use"
  | (with_reducible refine setN_top (by assumption) ?_) | (with_reducible refine setN_bottom (by assumption) ?_)
  | ((with_reducible refine ⟨_, _, _, ?j, _, rfl, rfl, .head, ?h, .head, ?_⟩); case h => rfl)
  | fail)
local macro_rules | `(tactic| walk_at "br") => `(tactic| ((with_reducible refine ⟨fun hb => ?_, fun hb => ?_⟩) <;> (try simp only [decide_eq_true_eq, decide_eq_false_iff_not, Bool.not_eq_true', Bool.not_eq_false', Bool.and_eq_true, Bool.or_eq_true, reduceCtorEq, List.length_map, Bool.not_true, Bool.not_false, isNon] at hb)))
local macro_rules | `(tactic| walk_at "wif") => `(tactic| (with_reducible refine ws_if ?_))
local macro_rules | `(tactic| walk_at "st") => `(tactic| first
  | ((with_reducible show We _ _ _ _ _ _); walk_at "sWe")
  | ((with_reducible show W2 _ _ _ _ _ _ _ _); walk_at "sW2")
  | ((with_reducible show Wa _ _ _ _ _ _); walk_at "sWa")
  | ((with_reducible show Ws _ _ _ _ _ _); walk_at "sWs")
  | ((with_reducible show Wt _ _ _ _ _ _); walk_at "sWt")
  | ((with_reducible show Wc _ _ _ _ _ _ _); walk_at "sWc")
  | ((with_reducible show Wg _ _ _ _ _ _ _); walk_at "sWg")
  | ((with_reducible show W1 _ _ _ _ _ _ _); walk_at "sW1")
  | ((with_reducible show Wgs _ _ _ _ _ _ _); walk_at "sWgs")
  | walk_at "sX" | fail)
local macro_rules | `(tactic| walk_at "dl") => `(tactic| repeat (first | walk_at "st" | walk_at "wif" | fail))
local macro_rules | `(tactic| walk_at "gn") => `(tactic| repeat' (first | walk_at "st" | walk_at "br" | fail))
local macro_rules | `(tactic| walk_at "go") => `(tactic| repeat' (first | walk_at "st" | walk_at "wif" | walk_at "br" | fail))
local macro_rules | `(tactic| walk_at "useWe") => `(tactic| first | (with_reducible refine we_mt ?_) | (with_reducible refine we_ratQ ?_) | (with_reducible refine we_ratQ1 ?_) | (with_reducible refine we_spn ?_) | fail)
local macro_rules | `(tactic| walk_at "useW2") => `(tactic| first
  | (with_reducible refine w2_addO (by assumption) (by decide) .fixed .fixed ?_) | (with_reducible refine w2_subO (by assumption) (by decide) .fixed .fixed ?_) | (with_reducible refine w2_mulO (by assumption) (by decide) .fixed .fixed ?_) | (with_reducible refine w1_negO (by assumption) (by decide) .fixed ?_) | (with_reducible refine w2_inO (by assumption) (by decide) .fixed ?_) | fail)
local macro_rules | `(tactic| walk_at "useWc") => `(tactic| fail)
local macro_rules | `(tactic| walk_at "useWs") => `(tactic| first | (with_reducible refine ws_rs0 ?_) | (with_reducible refine ws_rs ?_) | fail)
local macro_rules | `(tactic| walk_at "use") => `(tactic| fail)

/-! Ratio and Span by numbers: their promises used -/
local macro_rules | `(tactic| walk_at "useq") => `(tactic| first
  | (with_reducible refine fld_low (by assumption) ?_) | (with_reducible refine fld_high (by assumption) ?_)
  | (with_reducible refine mt_of0 (by assumption) (by decide) ?_) | (with_reducible refine RatQ.mk ?_ ?_ ?_)
  | (with_reducible refine use_qcmp ?_ ?_ ?_) | (with_reducible refine use_qsign ?_)
  | (with_reducible refine use_qleast ?_ ?_ ?_) | (with_reducible refine use_qgreat ?_ ?_ ?_)
  | (with_reducible refine use_qadd ?_ ?_ ?_) | (with_reducible refine use_qsub ?_ ?_ ?_) | (with_reducible refine use_qmul ?_ ?_ ?_) | (with_reducible refine use_qdiv ?_ ?_ ?_ ?_) | (with_reducible refine use_qneg ?_ ?_)
  | (with_reducible refine SpnA.mk ?_ ?_ ?_ ?_)
  | (with_reducible refine use_s2 ?_ ?_) | (with_reducible refine use_sneg ?_ ?_ ?_ ?_) | (with_reducible refine use_scont ?_ ?_ ?_ ?_) | (with_reducible refine use_sdiv ?_ ?_ ?_)
  | (with_reducible refine setN_low (by assumption) ?_) | (with_reducible refine setN_high (by assumption) ?_)
  | fail)

section
variable {G : Gx} {C_Ratio C_Span C_ZeroBottom C_Apart C_CarryError : Addr}
def S_no (S C : Addr) : SpecD := fun ds m K _ => ∃ x0 x1 y0 y1, ds = [spn S C x0 x1, spn S C y0 y1] ∧ Two x0 x1 y0 y1 ∧ y0 ≤ 0 ∧ 0 ≤ y1 ∧ K (.bl true) m
theorem use_no {S C : Addr} {x0 x1 y0 y1 : Rat} {m : Mu} {K : KT} {E : Ex → Mu → Prop} (t : Two x0 x1 y0 y1) (h0 : y0 ≤ 0) (h1 : 0 ≤ y1) (k : K (.bl true) m) : S_no S C [spn S C x0 x1, spn S C y0 y1] m K E := ⟨_, _, _, _, rfl, t, h0, h1, k⟩
local macro_rules | `(tactic| walk_at "use") => `(tactic| first | (with_reducible refine mt_of0 (by assumption) (by decide) ?_) | fail)
local macro_rules | `(tactic| walk_at "useWc") => `(tactic| first | (with_reducible refine wc_isEC (by assumption) (by assumption) ?_) | (with_reducible refine wc_isET (by assumption) (by assumption) ?_) | fail)
theorem ok_no_quotient (T : Txt G C_Ratio C_Span C_ZeroBottom C_Apart C_CarryError) (m_Span_divided : Met G 5 C_Span ["low", "high"] "divided" 2 (S_sdiv C_Span C_Ratio C_ZeroBottom) []) {f : Addr} {fd : FuncData} (F : L2.Fun G.K "_law_no_quotient" "_law_no_quotient" s__law_no_quotient f fd) (b : L2.Binds G.K fd ["a", "b"] []) : Fnx G 6 f 2 (S_no C_Span C_Ratio) [] := by
  refine fnx_of F sc__law_no_quotient rfl b .nil rfl (fun cdv A outer s H FF hr tk => ⟨_, (pss_cons (ps_tryD (i := 2) rfl rfl sc__law_no_quotient.nd rfl rfl ⟨rfl, nd_CarryError.1, .inl T.mg_CarryError⟩ tk (fun W1 pn1 xe1 tk1 po1 => (pss_one (ps_expr (pe_mthG G (by rfl) (by exact hr) tk1 (pe_var (i := 0) rfl (Or.inl rfl) nd_a.1 nd_a.2) (pa_cons (pe_var (i := 1) rfl (Or.inl rfl) nd_b.1 nd_b.2) pa_nil))))) (fun a1 oe1 cls1 d1 pn1 hz hf => (pss_one (ps_ret (pe_and (pe_isE hz hf T.n_isinstance (pa_cons (pe_var (i := 2) rfl (Or.inl rfl) nd_e.1 nd_e.2) (pa_cons (pe_glob (v := .ref C_ZeroBottom) (by rfl) T.mg_ZeroBottom rfl) pa_nil))) (pe_and (pe_isE hz hf T.n_isinstance (pa_cons (pe_var (i := 2) rfl (Or.inl rfl) nd_e.1 nd_e.2) (pa_cons (pe_bltn (v := .ty "ValueError") (by rfl) T.n_ValueError bt_ValueError rfl) pa_nil))) (pe_one (pe_not (pe_isE hz hf T.n_isinstance (pa_cons (pe_var (i := 2) rfl (Or.inl rfl) nd_e.1 nd_e.2) (pa_cons (pe_glob (v := .ref C_Apart) (by rfl) T.mg_Apart rfl) pa_nil))))))))))) (pss_one (ps_ret pe_bl))), ?_⟩)
  rintro ds m K E - ⟨x0, x1, y0, y1, rfl, t, h0, h1, k⟩
  show Ws _ _ _ [some (spn C_Span C_Ratio x0 x1), some (spn C_Span C_Ratio y0 y1), none] _ _
  dsimp only [cx_G, cx_K]
  have XC := T.XC_ZeroBottom
  have i1 := T.is_ZeroBottom_ZeroBottom
  have i2 := T.is_ZeroBottom_Apart
  have i3 := T.isT_ZeroBottom_ValueError
  refine ws_seq (ws_try fun W' => ?_)
  walk_at "go"
  refine ⟨x0, x1, y0, y1, rfl, t, .inl ⟨h0, h1, true, T.ex_ZeroBottom_CarryError, fun _ x dd => ?_, fun z => nomatch z⟩⟩
  walk_at "go"
  all_goals exact k
abbrev b4 (a b c d : Int) : D := .tup [pr a b, pr c d]
def S_all (S C : Addr) : SpecD := fun ds m K _ => ∃ a b c d e f g h x u y v, ds = [spn S C (dv a b) (dv c d), spn S C (dv e f) (dv g h), b4 a b c d, b4 e f g h, pr x u, pr y v] ∧ Law2 a b c d e f g h x u y v ∧ K (.bl true) m
theorem use_all {S C : Addr} {a b c d e f g h x u y v : Int} {m : Mu} {K : KT} {E : Ex → Mu → Prop} (l : Law2 a b c d e f g h x u y v) (k : K (.bl true) m) : S_all S C [spn S C (dv a b) (dv c d), spn S C (dv e f) (dv g h), b4 a b c d, b4 e f g h, pr x u, pr y v] m K E := ⟨a, b, c, d, e, f, g, h, x, u, y, v, rfl, l, k⟩
theorem Law2.two {a b c d e f g h x u y v : Int} (l : Law2 a b c d e f g h x u y v) : Two (dv a b) (dv c d) (dv e f) (dv g h) :=
  ⟨Rat.le_trans l.b.h1 l.b.h2, Rat.le_trans l.b.h3 l.b.h4, l.s0.qb.mono (by decide), l.s1.qb.mono (by decide), l.t0.qb.mono (by decide), l.t1.qb.mono (by decide)⟩
local macro_rules | `(tactic| walk_at "use") => `(tactic| first | (with_reducible refine use_asked ?_ ?_ ?_ ?_ ?_) | (with_reducible refine use_fits ?_ ?_ ?_ ?_ ?_) | (with_reducible refine use_no ?_ ?_ ?_ ?_) | walk_at "useq" | fail)
theorem ok_all (T : Txt G C_Ratio C_Span C_ZeroBottom C_Apart C_CarryError) (c__law_asked : Cal G 6 "_law_asked" 3 (S_asked C_Span C_Ratio) []) (c__law_fits : Cal G 3 "_law_fits" 6 (S_fits C_Span C_Ratio) []) (c__law_no_quotient : Cal G 6 "_law_no_quotient" 2 (S_no C_Span C_Ratio) []) {f : Addr} {fd : FuncData} (F : L2.Fun G.K "_law_all" "_law_all" s__law_all f fd) (b : L2.Binds G.K fd ["a", "b", "s", "t", "x", "y"] []) : Fnx G 7 f 6 (S_all C_Span C_Ratio) [] := by
  refine fnx_of F sc__law_all rfl b .nil rfl (fun cdv A outer s H FF hr tk => ⟨_, (pss_cons (ps_for (passes_of rfl) rfl (pi_range1 rfl T.n_range (pa_cons pe_int pa_nil)) (pg_name (i := 6) sc__law_all.nd rfl (Or.inl rfl)) (pss_one (ps_if (pt_not (pt_tr (pe_cl c__law_fits hr (by decide) tk rfl (pa_cons (pe_cl c__law_asked hr (by decide) tk rfl (pa_cons (pe_var (i := 6) rfl (Or.inl rfl) nd_op.1 nd_op.2) (pa_cons (pe_var (i := 0) rfl (Or.inl rfl) nd_a.1 nd_a.2) (pa_cons (pe_var (i := 1) rfl (Or.inl rfl) nd_b.1 nd_b.2) pa_nil)))) (pa_cons (pe_var (i := 6) rfl (Or.inl rfl) nd_op.1 nd_op.2) (pa_cons (pe_var (i := 2) rfl (Or.inl rfl) nd_s.1 nd_s.2) (pa_cons (pe_var (i := 3) rfl (Or.inl rfl) nd_t.1 nd_t.2) (pa_cons (pe_var (i := 4) rfl (Or.inl rfl) nd_x.1 nd_x.2) (pa_cons (pe_var (i := 5) rfl (Or.inl rfl) nd_y.1 nd_y.2) pa_nil))))))))) (pss_one (ps_ret pe_bl)) pss_nil))) (pss_cons (ps_if (PW.pt (pw_and (pt_cm os_le (pe_ix ix_seq (pe_ix ix_seq (pe_var (i := 3) rfl (Or.inl rfl) nd_t.1 nd_t.2) pe_int (fun _ _ => rfl)) pe_int (fun _ _ => rfl)) pe_int (nomark _)) (pw_and1 (pt_cm os_ge (pe_ix ix_seq (pe_ix ix_seq (pe_var (i := 3) rfl (Or.inl rfl) nd_t.1 nd_t.2) pe_int (fun _ _ => rfl)) pe_int (fun _ _ => rfl)) pe_int (nomark _))))) (pss_one (ps_ret (pe_cl c__law_no_quotient hr (by decide) tk rfl (pa_cons (pe_var (i := 0) rfl (Or.inl rfl) nd_a.1 nd_a.2) (pa_cons (pe_var (i := 1) rfl (Or.inl rfl) nd_b.1 nd_b.2) pa_nil))))) pss_nil) (pss_one (ps_ret (pe_cl c__law_fits hr (by decide) tk rfl (pa_cons (pe_cl c__law_asked hr (by decide) tk rfl (pa_cons pe_int (pa_cons (pe_var (i := 0) rfl (Or.inl rfl) nd_a.1 nd_a.2) (pa_cons (pe_var (i := 1) rfl (Or.inl rfl) nd_b.1 nd_b.2) pa_nil)))) (pa_cons pe_int (pa_cons (pe_var (i := 2) rfl (Or.inl rfl) nd_s.1 nd_s.2) (pa_cons (pe_var (i := 3) rfl (Or.inl rfl) nd_t.1 nd_t.2) (pa_cons (pe_var (i := 4) rfl (Or.inl rfl) nd_x.1 nd_x.2) (pa_cons (pe_var (i := 5) rfl (Or.inl rfl) nd_y.1 nd_y.2) pa_nil))))))))))), ?_⟩)
  rintro ds m K E - ⟨a, b, c, d, e, f, g, h, x, u, y, v, rfl, l, k⟩
  let R0 : Option D → Rho := fun o => [some (spn C_Span C_Ratio (dv a b) (dv c d)), some (spn C_Span C_Ratio (dv e f) (dv g h)), some (b4 a b c d), some (b4 e f g h), some (pr x u), some (pr y v), o]
  show Ws _ _ _ (R0 none) _ _
  dsimp only [cx_G, cx_K]
  have t := l.two
  have p0 : e ≤ 0 ↔ dv e f ≤ 0 := (dv_nonpos l.t0.pos).symm
  have p1 : 0 ≤ g ↔ 0 ≤ dv g h := (dv_nonneg l.t1.pos).symm
  walk_at "go"
  refine ws_range1 ?_
  walk_at "go"
  refine ⟨5, fun i r' m' => m' = m ∧ ∃ o, r' = R0 o, rfl, by decide, ⟨rfl, _, rfl⟩, ?_, ?_⟩
  · rintro i r' m' hi ⟨rfl, o, rfl⟩
    have i5 : (i : Int) ≤ 5 := by omega
    have i0 : (0 : Int) ≤ i := by omega
    have n5 : (i : Int) = 5 → 0 < dv e f ∨ dv g h < 0 := fun z => by omega
    walk_at "go"
    all_goals first | assumption | exact ⟨_, rfl⟩ | skip
  · rintro r' m' ⟨rfl, o, rfl⟩
    have n5 : ¬ (e ≤ 0 ∧ 0 ≤ g) → (5 : Int) = 5 → 0 < dv e f ∨ dv g h < 0 := fun z _ => by
      rw [p0, p1] at z
      grind
    have z1 : ¬ e ≤ 0 → (5 : Int) = 5 → 0 < dv e f ∨ dv g h < 0 := fun z => n5 fun w => z w.1
    have z2 : ¬ 0 ≤ g → (5 : Int) = 5 → 0 < dv e f ∨ dv g h < 0 := fun z => n5 fun w => z w.2
    walk_at "go"
    all_goals first | assumption | decide | exact p0.mp ‹_› | exact p1.mp ‹_› | exact z1 ‹_› | exact z2 ‹_› | exact k | skip
theorem Law2.of {a b c d e f g h x u y v : Int} (s0 : Fr 82 a b) (s1 : Fr 82 c d) (t0 : Fr 82 e f) (t1 : Fr 82 g h) (fx : Fr 300 x u) (fy : Fr 300 y v) (h1 : dv a b ≤ dv x u) (h2 : dv x u ≤ dv c d) (h3 : dv e f ≤ dv y v) (h4 : dv y v ≤ dv g h) : Law2 a b c d e f g h x u y v := ⟨s0, s1, t0, t1, fx, fy, ⟨h1, h2, h3, h4⟩⟩
local macro_rules | `(tactic| walk_at "use") => `(tactic| first | (with_reducible refine use_ends ?_ (by assumption) fun a b c d m' fa fc le hpm => ?_) | (with_reducible refine use_between ?_ ?_ ?_ (by assumption) fun t n m' fr l1 l2 hpm => ?_) | (with_reducible refine use_all ?_ ?_) | (with_reducible refine use_is_span ?_ ?_ ?_ ?_ ?_) | walk_at "useq" | fail)
theorem ok_law (T : Txt G C_Ratio C_Span C_ZeroBottom C_Apart C_CarryError) (k_Ratio : Mak G 1 "Ratio" C_Ratio 3 (S_init C_Ratio) []) (k_Span : Mak G 2 "Span" C_Span 3 (S_sinit C_Span C_Ratio) []) (o_Span___neg__ : Opr G 4 C_Span "__neg__" 1 (S_sneg C_Span C_Ratio)) (c__law_start : Cal G 1 "_law_start" 1 (S_pot G.K) []) (c__law_ends : Cal G 3 "_law_ends" 2 S_ends []) (c__law_between : Cal G 2 "_law_between" 2 S_between []) (c__law_all : Cal G 7 "_law_all" 6 (S_all C_Span C_Ratio) []) (c__law_is_span : Cal G 2 "_law_is_span" 3 (S_is_span C_Span C_Ratio) []) {f : Addr} {fd : FuncData} (F : L2.Fun G.K "law" "law" s_law f fd) : FnOk G.P G.w G.K G.mg G.base (L2N.CX G.P G.w) 8 f fd ["script"] (spD 1 (S_law G.K)) := by
  refine fnok_of F sc_law rfl (fun cdv A outer s H FF hr tk => ⟨_, (pss_cons (ps_set (i := 1) sc_law.nd rfl (Or.inl rfl) (pe_cl c__law_start hr (by decide) tk rfl (pa_cons (pe_var (i := 0) rfl (Or.inl rfl) nd_script.1 nd_script.2) pa_nil))) (pss_cons (ps_set (i := 2) sc_law.nd rfl (Or.inl rfl) (pe_cl c__law_ends hr (by decide) tk rfl (pa_cons (pe_var (i := 1) rfl (Or.inl rfl) nd_pot.1 nd_pot.2) (pa_cons pe_int pa_nil)))) (pss_cons (ps_set (i := 3) sc_law.nd rfl (Or.inl rfl) (pe_cl c__law_ends hr (by decide) tk rfl (pa_cons (pe_var (i := 1) rfl (Or.inl rfl) nd_pot.1 nd_pot.2) (pa_cons pe_int pa_nil)))) (pss_cons (ps_set (i := 4) sc_law.nd rfl (Or.inl rfl) (pe_cl c__law_between hr (by decide) tk rfl (pa_cons (pe_var (i := 1) rfl (Or.inl rfl) nd_pot.1 nd_pot.2) (pa_cons (pe_var (i := 2) rfl (Or.inl rfl) nd_s.1 nd_s.2) pa_nil)))) (pss_cons (ps_set (i := 5) sc_law.nd rfl (Or.inl rfl) (pe_cl c__law_between hr (by decide) tk rfl (pa_cons (pe_var (i := 1) rfl (Or.inl rfl) nd_pot.1 nd_pot.2) (pa_cons (pe_var (i := 3) rfl (Or.inl rfl) nd_t.1 nd_t.2) pa_nil)))) (pss_cons (ps_set (i := 6) sc_law.nd rfl (Or.inl rfl) (pe_cl c__law_between hr (by decide) tk rfl (pa_cons (pe_var (i := 1) rfl (Or.inl rfl) nd_pot.1 nd_pot.2) (pa_cons (pe_var (i := 2) rfl (Or.inl rfl) nd_s.1 nd_s.2) pa_nil)))) (pss_cons (ps_set (i := 7) sc_law.nd rfl (Or.inl rfl) (pe_mak k_Span hr (by decide) tk rfl (pa_cons (pe_mak k_Ratio hr (by decide) tk rfl (pa_cons (pe_ix ix_seq (pe_ix ix_seq (pe_var (i := 2) rfl (Or.inl rfl) nd_s.1 nd_s.2) pe_int (fun _ _ => rfl)) pe_int (fun _ _ => rfl)) (pa_cons (pe_ix ix_seq (pe_ix ix_seq (pe_var (i := 2) rfl (Or.inl rfl) nd_s.1 nd_s.2) pe_int (fun _ _ => rfl)) pe_int (fun _ _ => rfl)) pa_nil))) (pa_cons (pe_mak k_Ratio hr (by decide) tk rfl (pa_cons (pe_ix ix_seq (pe_ix ix_seq (pe_var (i := 2) rfl (Or.inl rfl) nd_s.1 nd_s.2) pe_int (fun _ _ => rfl)) pe_int (fun _ _ => rfl)) (pa_cons (pe_ix ix_seq (pe_ix ix_seq (pe_var (i := 2) rfl (Or.inl rfl) nd_s.1 nd_s.2) pe_int (fun _ _ => rfl)) pe_int (fun _ _ => rfl)) pa_nil))) pa_nil)))) (pss_cons (ps_set (i := 8) sc_law.nd rfl (Or.inl rfl) (pe_mak k_Span hr (by decide) tk rfl (pa_cons (pe_mak k_Ratio hr (by decide) tk rfl (pa_cons (pe_ix ix_seq (pe_ix ix_seq (pe_var (i := 3) rfl (Or.inl rfl) nd_t.1 nd_t.2) pe_int (fun _ _ => rfl)) pe_int (fun _ _ => rfl)) (pa_cons (pe_ix ix_seq (pe_ix ix_seq (pe_var (i := 3) rfl (Or.inl rfl) nd_t.1 nd_t.2) pe_int (fun _ _ => rfl)) pe_int (fun _ _ => rfl)) pa_nil))) (pa_cons (pe_mak k_Ratio hr (by decide) tk rfl (pa_cons (pe_ix ix_seq (pe_ix ix_seq (pe_var (i := 3) rfl (Or.inl rfl) nd_t.1 nd_t.2) pe_int (fun _ _ => rfl)) pe_int (fun _ _ => rfl)) (pa_cons (pe_ix ix_seq (pe_ix ix_seq (pe_var (i := 3) rfl (Or.inl rfl) nd_t.1 nd_t.2) pe_int (fun _ _ => rfl)) pe_int (fun _ _ => rfl)) pa_nil))) pa_nil)))) (pss_cons (ps_if (pt_not (pt_tr (pe_cl c__law_all hr (by decide) tk rfl (pa_cons (pe_var (i := 7) rfl (Or.inl rfl) nd_a.1 nd_a.2) (pa_cons (pe_var (i := 8) rfl (Or.inl rfl) nd_b.1 nd_b.2) (pa_cons (pe_var (i := 2) rfl (Or.inl rfl) nd_s.1 nd_s.2) (pa_cons (pe_var (i := 3) rfl (Or.inl rfl) nd_t.1 nd_t.2) (pa_cons (pe_var (i := 4) rfl (Or.inl rfl) nd_x.1 nd_x.2) (pa_cons (pe_var (i := 5) rfl (Or.inl rfl) nd_y.1 nd_y.2) pa_nil))))))))) (pss_one (ps_ret pe_bl)) pss_nil) (pss_cons (ps_if (pt_not (pt_tr (pe_cl c__law_all hr (by decide) tk rfl (pa_cons (pe_var (i := 7) rfl (Or.inl rfl) nd_a.1 nd_a.2) (pa_cons (pe_var (i := 7) rfl (Or.inl rfl) nd_a.1 nd_a.2) (pa_cons (pe_var (i := 2) rfl (Or.inl rfl) nd_s.1 nd_s.2) (pa_cons (pe_var (i := 2) rfl (Or.inl rfl) nd_s.1 nd_s.2) (pa_cons (pe_var (i := 4) rfl (Or.inl rfl) nd_x.1 nd_x.2) (pa_cons (pe_var (i := 6) rfl (Or.inl rfl) nd_z.1 nd_z.2) pa_nil))))))))) (pss_one (ps_ret pe_bl)) pss_nil) (pss_cons (ps_if (pt_not (pt_tr (pe_cl c__law_all hr (by decide) tk rfl (pa_cons (pe_var (i := 8) rfl (Or.inl rfl) nd_b.1 nd_b.2) (pa_cons (pe_var (i := 7) rfl (Or.inl rfl) nd_a.1 nd_a.2) (pa_cons (pe_var (i := 3) rfl (Or.inl rfl) nd_t.1 nd_t.2) (pa_cons (pe_var (i := 2) rfl (Or.inl rfl) nd_s.1 nd_s.2) (pa_cons (pe_var (i := 5) rfl (Or.inl rfl) nd_y.1 nd_y.2) (pa_cons (pe_var (i := 4) rfl (Or.inl rfl) nd_x.1 nd_x.2) pa_nil))))))))) (pss_one (ps_ret pe_bl)) pss_nil) (pss_cons (ps_if (pt_not (pt_tr (pe_cl c__law_all hr (by decide) tk rfl (pa_cons (pe_var (i := 7) rfl (Or.inl rfl) nd_a.1 nd_a.2) (pa_cons (pe_var (i := 8) rfl (Or.inl rfl) nd_b.1 nd_b.2) (pa_cons (pe_var (i := 2) rfl (Or.inl rfl) nd_s.1 nd_s.2) (pa_cons (pe_var (i := 3) rfl (Or.inl rfl) nd_t.1 nd_t.2) (pa_cons (pe_var (i := 6) rfl (Or.inl rfl) nd_z.1 nd_z.2) (pa_cons (pe_var (i := 5) rfl (Or.inl rfl) nd_y.1 nd_y.2) pa_nil))))))))) (pss_one (ps_ret pe_bl)) pss_nil) (pss_cons (ps_if (pt_not (pt_tr (pe_cl c__law_is_span hr (by decide) tk rfl (pa_cons (pe_una (us_neg hr tk) (pe_var (i := 7) rfl (Or.inl rfl) nd_a.1 nd_a.2)) (pa_cons (pe_tup (pa_cons (pe_una (us_neg hr tk) (pe_ix ix_seq (pe_ix ix_seq (pe_var (i := 2) rfl (Or.inl rfl) nd_s.1 nd_s.2) pe_int (fun _ _ => rfl)) pe_int (fun _ _ => rfl))) (pa_cons (pe_ix ix_seq (pe_ix ix_seq (pe_var (i := 2) rfl (Or.inl rfl) nd_s.1 nd_s.2) pe_int (fun _ _ => rfl)) pe_int (fun _ _ => rfl)) pa_nil))) (pa_cons (pe_tup (pa_cons (pe_una (us_neg hr tk) (pe_ix ix_seq (pe_ix ix_seq (pe_var (i := 2) rfl (Or.inl rfl) nd_s.1 nd_s.2) pe_int (fun _ _ => rfl)) pe_int (fun _ _ => rfl))) (pa_cons (pe_ix ix_seq (pe_ix ix_seq (pe_var (i := 2) rfl (Or.inl rfl) nd_s.1 nd_s.2) pe_int (fun _ _ => rfl)) pe_int (fun _ _ => rfl)) pa_nil))) pa_nil)))))) (pss_one (ps_ret pe_bl)) pss_nil) (pss_cons (ps_if (pt_not (pt_tr (pe_cl c__law_is_span hr (by decide) tk rfl (pa_cons (pe_una (us_neg hr tk) (pe_var (i := 8) rfl (Or.inl rfl) nd_b.1 nd_b.2)) (pa_cons (pe_tup (pa_cons (pe_una (us_neg hr tk) (pe_ix ix_seq (pe_ix ix_seq (pe_var (i := 3) rfl (Or.inl rfl) nd_t.1 nd_t.2) pe_int (fun _ _ => rfl)) pe_int (fun _ _ => rfl))) (pa_cons (pe_ix ix_seq (pe_ix ix_seq (pe_var (i := 3) rfl (Or.inl rfl) nd_t.1 nd_t.2) pe_int (fun _ _ => rfl)) pe_int (fun _ _ => rfl)) pa_nil))) (pa_cons (pe_tup (pa_cons (pe_una (us_neg hr tk) (pe_ix ix_seq (pe_ix ix_seq (pe_var (i := 3) rfl (Or.inl rfl) nd_t.1 nd_t.2) pe_int (fun _ _ => rfl)) pe_int (fun _ _ => rfl))) (pa_cons (pe_ix ix_seq (pe_ix ix_seq (pe_var (i := 3) rfl (Or.inl rfl) nd_t.1 nd_t.2) pe_int (fun _ _ => rfl)) pe_int (fun _ _ => rfl)) pa_nil))) pa_nil)))))) (pss_one (ps_ret pe_bl)) pss_nil) (pss_one (ps_ret (pe_and (pe_cl c__law_is_span hr (by decide) tk rfl (pa_cons (pe_var (i := 7) rfl (Or.inl rfl) nd_a.1 nd_a.2) (pa_cons (pe_ix ix_seq (pe_var (i := 2) rfl (Or.inl rfl) nd_s.1 nd_s.2) pe_int (fun _ _ => rfl)) (pa_cons (pe_ix ix_seq (pe_var (i := 2) rfl (Or.inl rfl) nd_s.1 nd_s.2) pe_int (fun _ _ => rfl)) pa_nil)))) (pe_one (pe_cl c__law_is_span hr (by decide) tk rfl (pa_cons (pe_var (i := 8) rfl (Or.inl rfl) nd_b.1 nd_b.2) (pa_cons (pe_ix ix_seq (pe_var (i := 3) rfl (Or.inl rfl) nd_t.1 nd_t.2) pe_int (fun _ _ => rfl)) (pa_cons (pe_ix ix_seq (pe_var (i := 3) rfl (Or.inl rfl) nd_t.1 nd_t.2) pe_int (fun _ _ => rfl)) pa_nil)))))))))))))))))))))), ?_⟩)
  rintro ds m K E - ⟨d, ns, rfl, sd, hl, hb, rfl, k⟩
  show Ws _ _ _ [some d, none, none, none, none, none, none, none, none] _ _
  dsimp only [cx_G, cx_K]
  walk_at "go"
  refine ⟨d, ns, rfl, sd, hl, fun p m1 hp hm => ?_⟩
  have hpm : PotM p [] m1 := hm
  walk_at "go"
  all_goals try first | assumption | exact .inl rfl | exact .inr rfl
  all_goals first
    | exact Int.ne_of_gt (Fr.pos ‹_›)
    | exact (Fr.bb ‹_›).mono (by decide)
    | exact (Fr.qb ‹_›).mono (by decide)
    | exact Law2.of ‹_› ‹_› ‹_› ‹_› ‹_› ‹_› ‹_› ‹_› ‹_› ‹_›
    | exact Law2.of ‹_› ‹_› ‹_› ‹_› ‹_› ‹_› ‹_› ‹_› ‹_› ‹_›
    | exact (Fr.neg ‹_›).mono (by decide)
    | exact Fr.mono ‹_› (by decide)
    | rfl
    | exact neg_dv.symm
    | exact k _
    | skip
  all_goals trace_state
end
end K05
set_option Elab.async false
set_option linter.all false
set_option maxRecDepth 100000
set_option maxHeartbeats 4000000
namespace K05
open PySem PySem.Spec L2 DL
open PyProof.Rows hiding St
theorem all_mk {l : PySem.W.OpenLaw} {w : World} {K : PySem.W.Frag} {h : Heap} {mg : Str → Option Value} {fa : Addr} (X : K.In h) (Gn : h.Ns mainGlobals mg) (hfa : mg "law" = some (.ref fa))
    {C_Ratio : Addr} {C_Span : Addr} {C_ZeroBottom : Addr} {C_Apart : Addr} {C_CarryError : Addr} {f_Ratio___init__ : Addr} {od_Ratio___init__ an_Ratio___init__ : Option Addr} {sl_Ratio___init__ : Array (Option Value)} {oc_Ratio___init__ kV_Ratio___init__ dc_Ratio___init__ pm_Ratio___init__ cd_Ratio___init__ ct_Ratio___init__ : Value} {T_Ratio___init__ : Addr} {tk_Ratio___init__ : Tok} {oT_Ratio___init__ : Option Addr} {nT_Ratio___init__ : Nat} {sT_Ratio___init__ : Array (Option Value)} {cT_Ratio___init__ : Value} {f_Ratio_compare : Addr} {od_Ratio_compare an_Ratio_compare : Option Addr} {sl_Ratio_compare : Array (Option Value)} {oc_Ratio_compare kV_Ratio_compare dc_Ratio_compare pm_Ratio_compare cd_Ratio_compare ct_Ratio_compare : Value} {f_Ratio_sign : Addr} {od_Ratio_sign an_Ratio_sign : Option Addr} {sl_Ratio_sign : Array (Option Value)} {oc_Ratio_sign kV_Ratio_sign dc_Ratio_sign pm_Ratio_sign cd_Ratio_sign ct_Ratio_sign : Value} {f_Ratio_divided : Addr} {od_Ratio_divided an_Ratio_divided : Option Addr} {sl_Ratio_divided : Array (Option Value)} {oc_Ratio_divided kV_Ratio_divided dc_Ratio_divided pm_Ratio_divided cd_Ratio_divided ct_Ratio_divided : Value} {f_Ratio___add__ : Addr} {od_Ratio___add__ an_Ratio___add__ : Option Addr} {sl_Ratio___add__ : Array (Option Value)} {oc_Ratio___add__ kV_Ratio___add__ dc_Ratio___add__ pm_Ratio___add__ cd_Ratio___add__ ct_Ratio___add__ : Value} {f_Ratio___sub__ : Addr} {od_Ratio___sub__ an_Ratio___sub__ : Option Addr} {sl_Ratio___sub__ : Array (Option Value)} {oc_Ratio___sub__ kV_Ratio___sub__ dc_Ratio___sub__ pm_Ratio___sub__ cd_Ratio___sub__ ct_Ratio___sub__ : Value} {f_Ratio___mul__ : Addr} {od_Ratio___mul__ an_Ratio___mul__ : Option Addr} {sl_Ratio___mul__ : Array (Option Value)} {oc_Ratio___mul__ kV_Ratio___mul__ dc_Ratio___mul__ pm_Ratio___mul__ cd_Ratio___mul__ ct_Ratio___mul__ : Value} {f_Ratio___neg__ : Addr} {od_Ratio___neg__ an_Ratio___neg__ : Option Addr} {sl_Ratio___neg__ : Array (Option Value)} {oc_Ratio___neg__ kV_Ratio___neg__ dc_Ratio___neg__ pm_Ratio___neg__ cd_Ratio___neg__ ct_Ratio___neg__ : Value} {f_lesser : Addr} {od_lesser an_lesser : Option Addr} {sl_lesser : Array (Option Value)} {oc_lesser kV_lesser dc_lesser pm_lesser cd_lesser ct_lesser : Value} {f_greater : Addr} {od_greater an_greater : Option Addr} {sl_greater : Array (Option Value)} {oc_greater kV_greater dc_greater pm_greater cd_greater ct_greater : Value} {f_Span___init__ : Addr} {od_Span___init__ an_Span___init__ : Option Addr} {sl_Span___init__ : Array (Option Value)} {oc_Span___init__ kV_Span___init__ dc_Span___init__ pm_Span___init__ cd_Span___init__ ct_Span___init__ : Value} {f_Span___add__ : Addr} {od_Span___add__ an_Span___add__ : Option Addr} {sl_Span___add__ : Array (Option Value)} {oc_Span___add__ kV_Span___add__ dc_Span___add__ pm_Span___add__ cd_Span___add__ ct_Span___add__ : Value} {f_Span___sub__ : Addr} {od_Span___sub__ an_Span___sub__ : Option Addr} {sl_Span___sub__ : Array (Option Value)} {oc_Span___sub__ kV_Span___sub__ dc_Span___sub__ pm_Span___sub__ cd_Span___sub__ ct_Span___sub__ : Value} {f_Span___mul__ : Addr} {od_Span___mul__ an_Span___mul__ : Option Addr} {sl_Span___mul__ : Array (Option Value)} {oc_Span___mul__ kV_Span___mul__ dc_Span___mul__ pm_Span___mul__ cd_Span___mul__ ct_Span___mul__ : Value} {f_Span___neg__ : Addr} {od_Span___neg__ an_Span___neg__ : Option Addr} {sl_Span___neg__ : Array (Option Value)} {oc_Span___neg__ kV_Span___neg__ dc_Span___neg__ pm_Span___neg__ cd_Span___neg__ ct_Span___neg__ : Value} {f_Span___contains__ : Addr} {od_Span___contains__ an_Span___contains__ : Option Addr} {sl_Span___contains__ : Array (Option Value)} {oc_Span___contains__ kV_Span___contains__ dc_Span___contains__ pm_Span___contains__ cd_Span___contains__ ct_Span___contains__ : Value} {f_Span_least : Addr} {od_Span_least an_Span_least : Option Addr} {sl_Span_least : Array (Option Value)} {oc_Span_least kV_Span_least dc_Span_least pm_Span_least cd_Span_least ct_Span_least : Value} {f_Span_greatest : Addr} {od_Span_greatest an_Span_greatest : Option Addr} {sl_Span_greatest : Array (Option Value)} {oc_Span_greatest kV_Span_greatest dc_Span_greatest pm_Span_greatest cd_Span_greatest ct_Span_greatest : Value} {f_Span_divided : Addr} {od_Span_divided an_Span_divided : Option Addr} {sl_Span_divided : Array (Option Value)} {oc_Span_divided kV_Span_divided dc_Span_divided pm_Span_divided cd_Span_divided ct_Span_divided : Value} {f__law_start : Addr} {od__law_start an__law_start : Option Addr} {sl__law_start : Array (Option Value)} {oc__law_start kV__law_start dc__law_start pm__law_start cd__law_start ct__law_start : Value} {f__law_digit : Addr} {od__law_digit an__law_digit : Option Addr} {sl__law_digit : Array (Option Value)} {oc__law_digit kV__law_digit dc__law_digit pm__law_digit cd__law_digit ct__law_digit : Value} {f__law_fraction : Addr} {od__law_fraction an__law_fraction : Option Addr} {sl__law_fraction : Array (Option Value)} {oc__law_fraction kV__law_fraction dc__law_fraction pm__law_fraction cd__law_fraction ct__law_fraction : Value} {f__law_less : Addr} {od__law_less an__law_less : Option Addr} {sl__law_less : Array (Option Value)} {oc__law_less kV__law_less dc__law_less pm__law_less cd__law_less ct__law_less : Value} {f__law_plus : Addr} {od__law_plus an__law_plus : Option Addr} {sl__law_plus : Array (Option Value)} {oc__law_plus kV__law_plus dc__law_plus pm__law_plus cd__law_plus ct__law_plus : Value} {f__law_ends : Addr} {od__law_ends an__law_ends : Option Addr} {sl__law_ends : Array (Option Value)} {oc__law_ends kV__law_ends dc__law_ends pm__law_ends cd__law_ends ct__law_ends : Value} {f__law_between : Addr} {od__law_between an__law_between : Option Addr} {sl__law_between : Array (Option Value)} {oc__law_between kV__law_between dc__law_between pm__law_between cd__law_between ct__law_between : Value} {f__law_own : Addr} {od__law_own an__law_own : Option Addr} {sl__law_own : Array (Option Value)} {oc__law_own kV__law_own dc__law_own pm__law_own cd__law_own ct__law_own : Value} {f__law_asked : Addr} {od__law_asked an__law_asked : Option Addr} {sl__law_asked : Array (Option Value)} {oc__law_asked kV__law_asked dc__law_asked pm__law_asked cd__law_asked ct__law_asked : Value} {f__law_equals : Addr} {od__law_equals an__law_equals : Option Addr} {sl__law_equals : Array (Option Value)} {oc__law_equals kV__law_equals dc__law_equals pm__law_equals cd__law_equals ct__law_equals : Value} {f__law_is_span : Addr} {od__law_is_span an__law_is_span : Option Addr} {sl__law_is_span : Array (Option Value)} {oc__law_is_span kV__law_is_span dc__law_is_span pm__law_is_span cd__law_is_span ct__law_is_span : Value} {f__law_fits : Addr} {od__law_fits an__law_fits : Option Addr} {sl__law_fits : Array (Option Value)} {oc__law_fits kV__law_fits dc__law_fits pm__law_fits cd__law_fits ct__law_fits : Value} {f__law_no_quotient : Addr} {od__law_no_quotient an__law_no_quotient : Option Addr} {sl__law_no_quotient : Array (Option Value)} {oc__law_no_quotient kV__law_no_quotient dc__law_no_quotient pm__law_no_quotient cd__law_no_quotient ct__law_no_quotient : Value} {f__law_all : Addr} {od__law_all an__law_all : Option Addr} {sl__law_all : Array (Option Value)} {oc__law_all kV__law_all dc__law_all pm__law_all cd__law_all ct__law_all : Value} {f_law : Addr} {od_law an_law : Option Addr} {sl_law : Array (Option Value)} {oc_law kV_law dc_law pm_law cd_law ct_law : Value}
    (a_Ratio : PySem.W.nsIn K mainGlobals "Ratio" = some (some (.ref C_Ratio)))
    (pg_Ratio : PySem.W.plainGet K C_Ratio Str.empty = true)
    (hd_Ratio : PySem.W.hasDictIn K C_Ratio = true)
    (po_Ratio : PySem.W.plainOver K C_Ratio = true)
    (sa_Ratio : PySem.W.findIn K (.ref C_Ratio) "__setattr__" = some (some (.builtin "object.__setattr__")))
    (mk_Ratio : PySem.W.makesIn K C_Ratio = true)
    (sf_Ratio : PySem.W.selfFirst K C_Ratio = true)
    (kc_Ratio : PySem.W.keepIn K (.ref C_Ratio) = true)
    (ha_Ratio : PySem.W.findIn K (.ref C_Ratio) "__class__" = some (some (.builtin "object.__class__")))
    (mo_Ratio : PySem.W.mroIn K C_Ratio (.type "object") = some true)
    (no_top_Ratio : PySem.W.findIn K (.ref C_Ratio) "top" = some none)
    (no_bottom_Ratio : PySem.W.findIn K (.ref C_Ratio) "bottom" = some none)
    (a_Span : PySem.W.nsIn K mainGlobals "Span" = some (some (.ref C_Span)))
    (pg_Span : PySem.W.plainGet K C_Span Str.empty = true)
    (hd_Span : PySem.W.hasDictIn K C_Span = true)
    (po_Span : PySem.W.plainOver K C_Span = true)
    (sa_Span : PySem.W.findIn K (.ref C_Span) "__setattr__" = some (some (.builtin "object.__setattr__")))
    (mk_Span : PySem.W.makesIn K C_Span = true)
    (sf_Span : PySem.W.selfFirst K C_Span = true)
    (kc_Span : PySem.W.keepIn K (.ref C_Span) = true)
    (ha_Span : PySem.W.findIn K (.ref C_Span) "__class__" = some (some (.builtin "object.__class__")))
    (mo_Span : PySem.W.mroIn K C_Span (.type "object") = some true)
    (no_low_Span : PySem.W.findIn K (.ref C_Span) "low" = some none)
    (no_high_Span : PySem.W.findIn K (.ref C_Span) "high" = some none)
    (a_ZeroBottom : PySem.W.nsIn K mainGlobals "ZeroBottom" = some (some (.ref C_ZeroBottom)))
    (xi_ZeroBottom : PySem.W.excIn K C_ZeroBottom [.type "ValueError", .type "Exception", .type "BaseException", .type "object"] "ValueError.__new__" = true)
    (ex_ZeroBottom : PySem.W.subIn K (.ref C_ZeroBottom) (.type "BaseException") = some true)
    (ty_ZeroBottom : PySem.W.typeIn K (.ref C_ZeroBottom) = some (.type "type"))
    (kc_ZeroBottom : PySem.W.keepIn K (.ref C_ZeroBottom) = true)
    (ga_ZeroBottom : PySem.W.findIn K (.ref C_ZeroBottom) "__getattribute__" = some (some (.builtin "BaseException.__getattribute__")))
    (gg_ZeroBottom : PySem.W.findIn K (.ref C_ZeroBottom) "__getattr__" = some none)
    (hd_ZeroBottom : PySem.W.hasDictIn K C_ZeroBottom = true)
    (ha_ZeroBottom : PySem.W.findIn K (.ref C_ZeroBottom) "__class__" = some (some (.builtin "object.__class__")))
    (mo_ZeroBottom : PySem.W.mroIn K C_ZeroBottom (.type "object") = some true)
    (is_ZeroBottom : PySem.W.isClsIn K C_ZeroBottom = true)
    (su_ZeroBottom : PySem.W.subIn K (.ref C_ZeroBottom) (.ref C_ZeroBottom) = some true)
    (a_Apart : PySem.W.nsIn K mainGlobals "Apart" = some (some (.ref C_Apart)))
    (ex_Apart : PySem.W.subIn K (.ref C_Apart) (.type "BaseException") = some true)
    (ty_Apart : PySem.W.typeIn K (.ref C_Apart) = some (.type "type"))
    (hd_Apart : PySem.W.hasDictIn K C_Apart = true)
    (is_Apart : PySem.W.isClsIn K C_Apart = true)
    (a_CarryError : PySem.W.nsIn K mainGlobals "CarryError" = some (some (.ref C_CarryError)))
    (ex_CarryError : PySem.W.subIn K (.ref C_CarryError) (.type "BaseException") = some true)
    (ty_CarryError : PySem.W.typeIn K (.ref C_CarryError) = some (.type "type"))
    (hd_CarryError : PySem.W.hasDictIn K C_CarryError = true)
    (is_CarryError : PySem.W.isClsIn K C_CarryError = true)
    (su_ZeroBottom_Apart : PySem.W.subIn K (.ref C_ZeroBottom) (.ref C_Apart) = some false)
    (su_ZeroBottom_CarryError : PySem.W.subIn K (.ref C_ZeroBottom) (.ref C_CarryError) = some true)
    (sT_ZeroBottom_ValueError : PySem.W.subIn K (.ref C_ZeroBottom) (.type "ValueError") = some true)
    (gs : PySem.W.specialIn K (.builtin "object.__class__") "__get__" = some (some (.builtin "getset_descriptor.__get__")))
    (gt : PySem.W.takesIn K (.builtin "object.__class__") = some true)
    (a_Ratio___init__ : PySem.W.findIn K (.ref C_Ratio) "__init__" = some (some (.ref f_Ratio___init__)))
    (i_Ratio___init__ : PySem.W.isFn K (.ref f_Ratio___init__) = true)
    (l_Ratio___init__ : K.lookup f_Ratio___init__ = some ⟨oc_Ratio___init__, od_Ratio___init__, .func (PySem.W.fnOf "__init__" "Ratio.__init__" (defArgs s_Ratio___init__) (defBody s_Ratio___init__) (defScope s_Ratio___init__) (.ref T_Ratio___init__) kV_Ratio___init__ dc_Ratio___init__ pm_Ratio___init__ an_Ratio___init__ cd_Ratio___init__ ct_Ratio___init__), sl_Ratio___init__⟩)
    (lT_Ratio___init__ : K.lookup T_Ratio___init__ = some ⟨cT_Ratio___init__, oT_Ratio___init__, .seq [Value.int 1 tk_Ratio___init__].toArray nT_Ratio___init__, sT_Ratio___init__⟩)
    (c_Ratio___init__ : PySem.W.codeIn K cd_Ratio___init__ "Ratio.__init__" = true)
    (k_Ratio___init__ : PySem.W.keepIn K (.ref f_Ratio___init__) = true)
    (a_Ratio_compare : PySem.W.findIn K (.ref C_Ratio) "compare" = some (some (.ref f_Ratio_compare)))
    (i_Ratio_compare : PySem.W.isFn K (.ref f_Ratio_compare) = true)
    (l_Ratio_compare : K.lookup f_Ratio_compare = some ⟨oc_Ratio_compare, od_Ratio_compare, .func (PySem.W.fnOf "compare" "Ratio.compare" (defArgs s_Ratio_compare) (defBody s_Ratio_compare) (defScope s_Ratio_compare) .none kV_Ratio_compare dc_Ratio_compare pm_Ratio_compare an_Ratio_compare cd_Ratio_compare ct_Ratio_compare), sl_Ratio_compare⟩)
    (c_Ratio_compare : PySem.W.codeIn K cd_Ratio_compare "Ratio.compare" = true)
    (k_Ratio_compare : PySem.W.keepIn K (.ref f_Ratio_compare) = true)
    (a_Ratio_sign : PySem.W.findIn K (.ref C_Ratio) "sign" = some (some (.ref f_Ratio_sign)))
    (i_Ratio_sign : PySem.W.isFn K (.ref f_Ratio_sign) = true)
    (l_Ratio_sign : K.lookup f_Ratio_sign = some ⟨oc_Ratio_sign, od_Ratio_sign, .func (PySem.W.fnOf "sign" "Ratio.sign" (defArgs s_Ratio_sign) (defBody s_Ratio_sign) (defScope s_Ratio_sign) .none kV_Ratio_sign dc_Ratio_sign pm_Ratio_sign an_Ratio_sign cd_Ratio_sign ct_Ratio_sign), sl_Ratio_sign⟩)
    (c_Ratio_sign : PySem.W.codeIn K cd_Ratio_sign "Ratio.sign" = true)
    (k_Ratio_sign : PySem.W.keepIn K (.ref f_Ratio_sign) = true)
    (a_Ratio_divided : PySem.W.findIn K (.ref C_Ratio) "divided" = some (some (.ref f_Ratio_divided)))
    (i_Ratio_divided : PySem.W.isFn K (.ref f_Ratio_divided) = true)
    (l_Ratio_divided : K.lookup f_Ratio_divided = some ⟨oc_Ratio_divided, od_Ratio_divided, .func (PySem.W.fnOf "divided" "Ratio.divided" (defArgs s_Ratio_divided) (defBody s_Ratio_divided) (defScope s_Ratio_divided) .none kV_Ratio_divided dc_Ratio_divided pm_Ratio_divided an_Ratio_divided cd_Ratio_divided ct_Ratio_divided), sl_Ratio_divided⟩)
    (c_Ratio_divided : PySem.W.codeIn K cd_Ratio_divided "Ratio.divided" = true)
    (k_Ratio_divided : PySem.W.keepIn K (.ref f_Ratio_divided) = true)
    (a_Ratio___add__ : PySem.W.findIn K (.ref C_Ratio) "__add__" = some (some (.ref f_Ratio___add__)))
    (i_Ratio___add__ : PySem.W.isFn K (.ref f_Ratio___add__) = true)
    (l_Ratio___add__ : K.lookup f_Ratio___add__ = some ⟨oc_Ratio___add__, od_Ratio___add__, .func (PySem.W.fnOf "__add__" "Ratio.__add__" (defArgs s_Ratio___add__) (defBody s_Ratio___add__) (defScope s_Ratio___add__) .none kV_Ratio___add__ dc_Ratio___add__ pm_Ratio___add__ an_Ratio___add__ cd_Ratio___add__ ct_Ratio___add__), sl_Ratio___add__⟩)
    (c_Ratio___add__ : PySem.W.codeIn K cd_Ratio___add__ "Ratio.__add__" = true)
    (k_Ratio___add__ : PySem.W.keepIn K (.ref f_Ratio___add__) = true)
    (a_Ratio___sub__ : PySem.W.findIn K (.ref C_Ratio) "__sub__" = some (some (.ref f_Ratio___sub__)))
    (i_Ratio___sub__ : PySem.W.isFn K (.ref f_Ratio___sub__) = true)
    (l_Ratio___sub__ : K.lookup f_Ratio___sub__ = some ⟨oc_Ratio___sub__, od_Ratio___sub__, .func (PySem.W.fnOf "__sub__" "Ratio.__sub__" (defArgs s_Ratio___sub__) (defBody s_Ratio___sub__) (defScope s_Ratio___sub__) .none kV_Ratio___sub__ dc_Ratio___sub__ pm_Ratio___sub__ an_Ratio___sub__ cd_Ratio___sub__ ct_Ratio___sub__), sl_Ratio___sub__⟩)
    (c_Ratio___sub__ : PySem.W.codeIn K cd_Ratio___sub__ "Ratio.__sub__" = true)
    (k_Ratio___sub__ : PySem.W.keepIn K (.ref f_Ratio___sub__) = true)
    (a_Ratio___mul__ : PySem.W.findIn K (.ref C_Ratio) "__mul__" = some (some (.ref f_Ratio___mul__)))
    (i_Ratio___mul__ : PySem.W.isFn K (.ref f_Ratio___mul__) = true)
    (l_Ratio___mul__ : K.lookup f_Ratio___mul__ = some ⟨oc_Ratio___mul__, od_Ratio___mul__, .func (PySem.W.fnOf "__mul__" "Ratio.__mul__" (defArgs s_Ratio___mul__) (defBody s_Ratio___mul__) (defScope s_Ratio___mul__) .none kV_Ratio___mul__ dc_Ratio___mul__ pm_Ratio___mul__ an_Ratio___mul__ cd_Ratio___mul__ ct_Ratio___mul__), sl_Ratio___mul__⟩)
    (c_Ratio___mul__ : PySem.W.codeIn K cd_Ratio___mul__ "Ratio.__mul__" = true)
    (k_Ratio___mul__ : PySem.W.keepIn K (.ref f_Ratio___mul__) = true)
    (a_Ratio___neg__ : PySem.W.findIn K (.ref C_Ratio) "__neg__" = some (some (.ref f_Ratio___neg__)))
    (i_Ratio___neg__ : PySem.W.isFn K (.ref f_Ratio___neg__) = true)
    (l_Ratio___neg__ : K.lookup f_Ratio___neg__ = some ⟨oc_Ratio___neg__, od_Ratio___neg__, .func (PySem.W.fnOf "__neg__" "Ratio.__neg__" (defArgs s_Ratio___neg__) (defBody s_Ratio___neg__) (defScope s_Ratio___neg__) .none kV_Ratio___neg__ dc_Ratio___neg__ pm_Ratio___neg__ an_Ratio___neg__ cd_Ratio___neg__ ct_Ratio___neg__), sl_Ratio___neg__⟩)
    (c_Ratio___neg__ : PySem.W.codeIn K cd_Ratio___neg__ "Ratio.__neg__" = true)
    (k_Ratio___neg__ : PySem.W.keepIn K (.ref f_Ratio___neg__) = true)
    (a_lesser : PySem.W.nsIn K mainGlobals "lesser" = some (some (.ref f_lesser)))
    (l_lesser : K.lookup f_lesser = some ⟨oc_lesser, od_lesser, .func (PySem.W.fnOf "lesser" "lesser" (defArgs s_lesser) (defBody s_lesser) (defScope s_lesser) .none kV_lesser dc_lesser pm_lesser an_lesser cd_lesser ct_lesser), sl_lesser⟩)
    (c_lesser : PySem.W.codeIn K cd_lesser "lesser" = true)
    (k_lesser : PySem.W.keepIn K (.ref f_lesser) = true)
    (a_greater : PySem.W.nsIn K mainGlobals "greater" = some (some (.ref f_greater)))
    (l_greater : K.lookup f_greater = some ⟨oc_greater, od_greater, .func (PySem.W.fnOf "greater" "greater" (defArgs s_greater) (defBody s_greater) (defScope s_greater) .none kV_greater dc_greater pm_greater an_greater cd_greater ct_greater), sl_greater⟩)
    (c_greater : PySem.W.codeIn K cd_greater "greater" = true)
    (k_greater : PySem.W.keepIn K (.ref f_greater) = true)
    (a_Span___init__ : PySem.W.findIn K (.ref C_Span) "__init__" = some (some (.ref f_Span___init__)))
    (i_Span___init__ : PySem.W.isFn K (.ref f_Span___init__) = true)
    (l_Span___init__ : K.lookup f_Span___init__ = some ⟨oc_Span___init__, od_Span___init__, .func (PySem.W.fnOf "__init__" "Span.__init__" (defArgs s_Span___init__) (defBody s_Span___init__) (defScope s_Span___init__) .none kV_Span___init__ dc_Span___init__ pm_Span___init__ an_Span___init__ cd_Span___init__ ct_Span___init__), sl_Span___init__⟩)
    (c_Span___init__ : PySem.W.codeIn K cd_Span___init__ "Span.__init__" = true)
    (k_Span___init__ : PySem.W.keepIn K (.ref f_Span___init__) = true)
    (a_Span___add__ : PySem.W.findIn K (.ref C_Span) "__add__" = some (some (.ref f_Span___add__)))
    (i_Span___add__ : PySem.W.isFn K (.ref f_Span___add__) = true)
    (l_Span___add__ : K.lookup f_Span___add__ = some ⟨oc_Span___add__, od_Span___add__, .func (PySem.W.fnOf "__add__" "Span.__add__" (defArgs s_Span___add__) (defBody s_Span___add__) (defScope s_Span___add__) .none kV_Span___add__ dc_Span___add__ pm_Span___add__ an_Span___add__ cd_Span___add__ ct_Span___add__), sl_Span___add__⟩)
    (c_Span___add__ : PySem.W.codeIn K cd_Span___add__ "Span.__add__" = true)
    (k_Span___add__ : PySem.W.keepIn K (.ref f_Span___add__) = true)
    (a_Span___sub__ : PySem.W.findIn K (.ref C_Span) "__sub__" = some (some (.ref f_Span___sub__)))
    (i_Span___sub__ : PySem.W.isFn K (.ref f_Span___sub__) = true)
    (l_Span___sub__ : K.lookup f_Span___sub__ = some ⟨oc_Span___sub__, od_Span___sub__, .func (PySem.W.fnOf "__sub__" "Span.__sub__" (defArgs s_Span___sub__) (defBody s_Span___sub__) (defScope s_Span___sub__) .none kV_Span___sub__ dc_Span___sub__ pm_Span___sub__ an_Span___sub__ cd_Span___sub__ ct_Span___sub__), sl_Span___sub__⟩)
    (c_Span___sub__ : PySem.W.codeIn K cd_Span___sub__ "Span.__sub__" = true)
    (k_Span___sub__ : PySem.W.keepIn K (.ref f_Span___sub__) = true)
    (a_Span___mul__ : PySem.W.findIn K (.ref C_Span) "__mul__" = some (some (.ref f_Span___mul__)))
    (i_Span___mul__ : PySem.W.isFn K (.ref f_Span___mul__) = true)
    (l_Span___mul__ : K.lookup f_Span___mul__ = some ⟨oc_Span___mul__, od_Span___mul__, .func (PySem.W.fnOf "__mul__" "Span.__mul__" (defArgs s_Span___mul__) (defBody s_Span___mul__) (defScope s_Span___mul__) .none kV_Span___mul__ dc_Span___mul__ pm_Span___mul__ an_Span___mul__ cd_Span___mul__ ct_Span___mul__), sl_Span___mul__⟩)
    (c_Span___mul__ : PySem.W.codeIn K cd_Span___mul__ "Span.__mul__" = true)
    (k_Span___mul__ : PySem.W.keepIn K (.ref f_Span___mul__) = true)
    (a_Span___neg__ : PySem.W.findIn K (.ref C_Span) "__neg__" = some (some (.ref f_Span___neg__)))
    (i_Span___neg__ : PySem.W.isFn K (.ref f_Span___neg__) = true)
    (l_Span___neg__ : K.lookup f_Span___neg__ = some ⟨oc_Span___neg__, od_Span___neg__, .func (PySem.W.fnOf "__neg__" "Span.__neg__" (defArgs s_Span___neg__) (defBody s_Span___neg__) (defScope s_Span___neg__) .none kV_Span___neg__ dc_Span___neg__ pm_Span___neg__ an_Span___neg__ cd_Span___neg__ ct_Span___neg__), sl_Span___neg__⟩)
    (c_Span___neg__ : PySem.W.codeIn K cd_Span___neg__ "Span.__neg__" = true)
    (k_Span___neg__ : PySem.W.keepIn K (.ref f_Span___neg__) = true)
    (a_Span___contains__ : PySem.W.findIn K (.ref C_Span) "__contains__" = some (some (.ref f_Span___contains__)))
    (i_Span___contains__ : PySem.W.isFn K (.ref f_Span___contains__) = true)
    (l_Span___contains__ : K.lookup f_Span___contains__ = some ⟨oc_Span___contains__, od_Span___contains__, .func (PySem.W.fnOf "__contains__" "Span.__contains__" (defArgs s_Span___contains__) (defBody s_Span___contains__) (defScope s_Span___contains__) .none kV_Span___contains__ dc_Span___contains__ pm_Span___contains__ an_Span___contains__ cd_Span___contains__ ct_Span___contains__), sl_Span___contains__⟩)
    (c_Span___contains__ : PySem.W.codeIn K cd_Span___contains__ "Span.__contains__" = true)
    (k_Span___contains__ : PySem.W.keepIn K (.ref f_Span___contains__) = true)
    (a_Span_least : PySem.W.findIn K (.ref C_Span) "least" = some (some (.ref f_Span_least)))
    (i_Span_least : PySem.W.isFn K (.ref f_Span_least) = true)
    (l_Span_least : K.lookup f_Span_least = some ⟨oc_Span_least, od_Span_least, .func (PySem.W.fnOf "least" "Span.least" (defArgs s_Span_least) (defBody s_Span_least) (defScope s_Span_least) .none kV_Span_least dc_Span_least pm_Span_least an_Span_least cd_Span_least ct_Span_least), sl_Span_least⟩)
    (c_Span_least : PySem.W.codeIn K cd_Span_least "Span.least" = true)
    (k_Span_least : PySem.W.keepIn K (.ref f_Span_least) = true)
    (a_Span_greatest : PySem.W.findIn K (.ref C_Span) "greatest" = some (some (.ref f_Span_greatest)))
    (i_Span_greatest : PySem.W.isFn K (.ref f_Span_greatest) = true)
    (l_Span_greatest : K.lookup f_Span_greatest = some ⟨oc_Span_greatest, od_Span_greatest, .func (PySem.W.fnOf "greatest" "Span.greatest" (defArgs s_Span_greatest) (defBody s_Span_greatest) (defScope s_Span_greatest) .none kV_Span_greatest dc_Span_greatest pm_Span_greatest an_Span_greatest cd_Span_greatest ct_Span_greatest), sl_Span_greatest⟩)
    (c_Span_greatest : PySem.W.codeIn K cd_Span_greatest "Span.greatest" = true)
    (k_Span_greatest : PySem.W.keepIn K (.ref f_Span_greatest) = true)
    (a_Span_divided : PySem.W.findIn K (.ref C_Span) "divided" = some (some (.ref f_Span_divided)))
    (i_Span_divided : PySem.W.isFn K (.ref f_Span_divided) = true)
    (l_Span_divided : K.lookup f_Span_divided = some ⟨oc_Span_divided, od_Span_divided, .func (PySem.W.fnOf "divided" "Span.divided" (defArgs s_Span_divided) (defBody s_Span_divided) (defScope s_Span_divided) .none kV_Span_divided dc_Span_divided pm_Span_divided an_Span_divided cd_Span_divided ct_Span_divided), sl_Span_divided⟩)
    (c_Span_divided : PySem.W.codeIn K cd_Span_divided "Span.divided" = true)
    (k_Span_divided : PySem.W.keepIn K (.ref f_Span_divided) = true)
    (a__law_start : PySem.W.nsIn K mainGlobals "_law_start" = some (some (.ref f__law_start)))
    (l__law_start : K.lookup f__law_start = some ⟨oc__law_start, od__law_start, .func (PySem.W.fnOf "_law_start" "_law_start" (defArgs s__law_start) (defBody s__law_start) (defScope s__law_start) .none kV__law_start dc__law_start pm__law_start an__law_start cd__law_start ct__law_start), sl__law_start⟩)
    (c__law_start : PySem.W.codeIn K cd__law_start "_law_start" = true)
    (k__law_start : PySem.W.keepIn K (.ref f__law_start) = true)
    (a__law_digit : PySem.W.nsIn K mainGlobals "_law_digit" = some (some (.ref f__law_digit)))
    (l__law_digit : K.lookup f__law_digit = some ⟨oc__law_digit, od__law_digit, .func (PySem.W.fnOf "_law_digit" "_law_digit" (defArgs s__law_digit) (defBody s__law_digit) (defScope s__law_digit) .none kV__law_digit dc__law_digit pm__law_digit an__law_digit cd__law_digit ct__law_digit), sl__law_digit⟩)
    (c__law_digit : PySem.W.codeIn K cd__law_digit "_law_digit" = true)
    (k__law_digit : PySem.W.keepIn K (.ref f__law_digit) = true)
    (a__law_fraction : PySem.W.nsIn K mainGlobals "_law_fraction" = some (some (.ref f__law_fraction)))
    (l__law_fraction : K.lookup f__law_fraction = some ⟨oc__law_fraction, od__law_fraction, .func (PySem.W.fnOf "_law_fraction" "_law_fraction" (defArgs s__law_fraction) (defBody s__law_fraction) (defScope s__law_fraction) .none kV__law_fraction dc__law_fraction pm__law_fraction an__law_fraction cd__law_fraction ct__law_fraction), sl__law_fraction⟩)
    (c__law_fraction : PySem.W.codeIn K cd__law_fraction "_law_fraction" = true)
    (k__law_fraction : PySem.W.keepIn K (.ref f__law_fraction) = true)
    (a__law_less : PySem.W.nsIn K mainGlobals "_law_less" = some (some (.ref f__law_less)))
    (l__law_less : K.lookup f__law_less = some ⟨oc__law_less, od__law_less, .func (PySem.W.fnOf "_law_less" "_law_less" (defArgs s__law_less) (defBody s__law_less) (defScope s__law_less) .none kV__law_less dc__law_less pm__law_less an__law_less cd__law_less ct__law_less), sl__law_less⟩)
    (c__law_less : PySem.W.codeIn K cd__law_less "_law_less" = true)
    (k__law_less : PySem.W.keepIn K (.ref f__law_less) = true)
    (a__law_plus : PySem.W.nsIn K mainGlobals "_law_plus" = some (some (.ref f__law_plus)))
    (l__law_plus : K.lookup f__law_plus = some ⟨oc__law_plus, od__law_plus, .func (PySem.W.fnOf "_law_plus" "_law_plus" (defArgs s__law_plus) (defBody s__law_plus) (defScope s__law_plus) .none kV__law_plus dc__law_plus pm__law_plus an__law_plus cd__law_plus ct__law_plus), sl__law_plus⟩)
    (c__law_plus : PySem.W.codeIn K cd__law_plus "_law_plus" = true)
    (k__law_plus : PySem.W.keepIn K (.ref f__law_plus) = true)
    (a__law_ends : PySem.W.nsIn K mainGlobals "_law_ends" = some (some (.ref f__law_ends)))
    (l__law_ends : K.lookup f__law_ends = some ⟨oc__law_ends, od__law_ends, .func (PySem.W.fnOf "_law_ends" "_law_ends" (defArgs s__law_ends) (defBody s__law_ends) (defScope s__law_ends) .none kV__law_ends dc__law_ends pm__law_ends an__law_ends cd__law_ends ct__law_ends), sl__law_ends⟩)
    (c__law_ends : PySem.W.codeIn K cd__law_ends "_law_ends" = true)
    (k__law_ends : PySem.W.keepIn K (.ref f__law_ends) = true)
    (a__law_between : PySem.W.nsIn K mainGlobals "_law_between" = some (some (.ref f__law_between)))
    (l__law_between : K.lookup f__law_between = some ⟨oc__law_between, od__law_between, .func (PySem.W.fnOf "_law_between" "_law_between" (defArgs s__law_between) (defBody s__law_between) (defScope s__law_between) .none kV__law_between dc__law_between pm__law_between an__law_between cd__law_between ct__law_between), sl__law_between⟩)
    (c__law_between : PySem.W.codeIn K cd__law_between "_law_between" = true)
    (k__law_between : PySem.W.keepIn K (.ref f__law_between) = true)
    (a__law_own : PySem.W.nsIn K mainGlobals "_law_own" = some (some (.ref f__law_own)))
    (l__law_own : K.lookup f__law_own = some ⟨oc__law_own, od__law_own, .func (PySem.W.fnOf "_law_own" "_law_own" (defArgs s__law_own) (defBody s__law_own) (defScope s__law_own) .none kV__law_own dc__law_own pm__law_own an__law_own cd__law_own ct__law_own), sl__law_own⟩)
    (c__law_own : PySem.W.codeIn K cd__law_own "_law_own" = true)
    (k__law_own : PySem.W.keepIn K (.ref f__law_own) = true)
    (a__law_asked : PySem.W.nsIn K mainGlobals "_law_asked" = some (some (.ref f__law_asked)))
    (l__law_asked : K.lookup f__law_asked = some ⟨oc__law_asked, od__law_asked, .func (PySem.W.fnOf "_law_asked" "_law_asked" (defArgs s__law_asked) (defBody s__law_asked) (defScope s__law_asked) .none kV__law_asked dc__law_asked pm__law_asked an__law_asked cd__law_asked ct__law_asked), sl__law_asked⟩)
    (c__law_asked : PySem.W.codeIn K cd__law_asked "_law_asked" = true)
    (k__law_asked : PySem.W.keepIn K (.ref f__law_asked) = true)
    (a__law_equals : PySem.W.nsIn K mainGlobals "_law_equals" = some (some (.ref f__law_equals)))
    (l__law_equals : K.lookup f__law_equals = some ⟨oc__law_equals, od__law_equals, .func (PySem.W.fnOf "_law_equals" "_law_equals" (defArgs s__law_equals) (defBody s__law_equals) (defScope s__law_equals) .none kV__law_equals dc__law_equals pm__law_equals an__law_equals cd__law_equals ct__law_equals), sl__law_equals⟩)
    (c__law_equals : PySem.W.codeIn K cd__law_equals "_law_equals" = true)
    (k__law_equals : PySem.W.keepIn K (.ref f__law_equals) = true)
    (a__law_is_span : PySem.W.nsIn K mainGlobals "_law_is_span" = some (some (.ref f__law_is_span)))
    (l__law_is_span : K.lookup f__law_is_span = some ⟨oc__law_is_span, od__law_is_span, .func (PySem.W.fnOf "_law_is_span" "_law_is_span" (defArgs s__law_is_span) (defBody s__law_is_span) (defScope s__law_is_span) .none kV__law_is_span dc__law_is_span pm__law_is_span an__law_is_span cd__law_is_span ct__law_is_span), sl__law_is_span⟩)
    (c__law_is_span : PySem.W.codeIn K cd__law_is_span "_law_is_span" = true)
    (k__law_is_span : PySem.W.keepIn K (.ref f__law_is_span) = true)
    (a__law_fits : PySem.W.nsIn K mainGlobals "_law_fits" = some (some (.ref f__law_fits)))
    (l__law_fits : K.lookup f__law_fits = some ⟨oc__law_fits, od__law_fits, .func (PySem.W.fnOf "_law_fits" "_law_fits" (defArgs s__law_fits) (defBody s__law_fits) (defScope s__law_fits) .none kV__law_fits dc__law_fits pm__law_fits an__law_fits cd__law_fits ct__law_fits), sl__law_fits⟩)
    (c__law_fits : PySem.W.codeIn K cd__law_fits "_law_fits" = true)
    (k__law_fits : PySem.W.keepIn K (.ref f__law_fits) = true)
    (a__law_no_quotient : PySem.W.nsIn K mainGlobals "_law_no_quotient" = some (some (.ref f__law_no_quotient)))
    (l__law_no_quotient : K.lookup f__law_no_quotient = some ⟨oc__law_no_quotient, od__law_no_quotient, .func (PySem.W.fnOf "_law_no_quotient" "_law_no_quotient" (defArgs s__law_no_quotient) (defBody s__law_no_quotient) (defScope s__law_no_quotient) .none kV__law_no_quotient dc__law_no_quotient pm__law_no_quotient an__law_no_quotient cd__law_no_quotient ct__law_no_quotient), sl__law_no_quotient⟩)
    (c__law_no_quotient : PySem.W.codeIn K cd__law_no_quotient "_law_no_quotient" = true)
    (k__law_no_quotient : PySem.W.keepIn K (.ref f__law_no_quotient) = true)
    (a__law_all : PySem.W.nsIn K mainGlobals "_law_all" = some (some (.ref f__law_all)))
    (l__law_all : K.lookup f__law_all = some ⟨oc__law_all, od__law_all, .func (PySem.W.fnOf "_law_all" "_law_all" (defArgs s__law_all) (defBody s__law_all) (defScope s__law_all) .none kV__law_all dc__law_all pm__law_all an__law_all cd__law_all ct__law_all), sl__law_all⟩)
    (c__law_all : PySem.W.codeIn K cd__law_all "_law_all" = true)
    (k__law_all : PySem.W.keepIn K (.ref f__law_all) = true)
    (a_law : PySem.W.nsIn K mainGlobals "law" = some (some (.ref f_law)))
    (l_law : K.lookup f_law = some ⟨oc_law, od_law, .func (PySem.W.fnOf "law" "law" (defArgs s_law) (defBody s_law) (defScope s_law) .none kV_law dc_law pm_law an_law cd_law ct_law), sl_law⟩)
    (c_law : PySem.W.codeIn K cd_law "law" = true)
    (k_law : PySem.W.keepIn K (.ref f_law) = true)
    (z_abs : PySem.W.nsIn K mainGlobals "abs" = some none)
    (z_len : PySem.W.nsIn K mainGlobals "len" = some none)
    (z_int : PySem.W.nsIn K mainGlobals "int" = some none)
    (z_bool : PySem.W.nsIn K mainGlobals "bool" = some none)
    (z_range : PySem.W.nsIn K mainGlobals "range" = some none)
    (z_isinstance : PySem.W.nsIn K mainGlobals "isinstance" = some none)
    (z_ValueError : PySem.W.nsIn K mainGlobals "ValueError" = some none)
    (v_gcd : PySem.W.nsIn K mainGlobals "gcd" = some (some (.builtin "math.gcd"))) :
    ∃ fd : FuncData, (∀ (s : Shared) (v : Value), BindsTo s fd ⟨[v], []⟩ [("script", v)]) ∧ ∀ base : Heap, K.In base → base.Ns mainGlobals mg → FnOk l.prog w K mg base (L2N.CX l.prog w) 8 fa fd ["script"] (spD 1 (S_law K)) := by
  have e := hfa.symm.trans (PySem.W.mg_of X Gn a_law)
  cases e
  have cls_Ratio : Cls K C_Ratio := ⟨pg_Ratio, hd_Ratio, po_Ratio, sa_Ratio⟩
  have S0_Ratio : RatC K C_Ratio := ⟨⟨cls_Ratio, ha_Ratio, gs, gt, mo_Ratio⟩, no_top_Ratio, no_bottom_Ratio⟩
  have cls_Span : Cls K C_Span := ⟨pg_Span, hd_Span, po_Span, sa_Span⟩
  have S0_Span : SpnC K C_Span := ⟨⟨cls_Span, ha_Span, gs, gt, mo_Span⟩, no_low_Span, no_high_Span⟩
  have F_Ratio___init__ : FunW K "__init__" "Ratio.__init__" s_Ratio___init__ [V.int 1] f_Ratio___init__ _ := ⟨⟨_, _, _, _, _, _, _, _, _, _, rfl, l_Ratio___init__, c_Ratio___init__, .inr ⟨by simp, _, _, _, _, rfl, lT_Ratio___init__, rfl, .cons ⟨_, rfl⟩ .nil⟩, .inl rfl⟩, k_Ratio___init__⟩
  obtain ⟨ds, hds, b_Ratio___init__⟩ := F_Ratio___init__.binds1 (ps := ["self", "top", "bottom"]) 3 1 (by simp) rfl fun T kV doc pm an cdv ct us its hl hl2 => match us, its, hl, hl2 with
    | [_, _, _], [e], _, _ => ⟨_, rfl, rfl⟩
  have ed : ds = [] := by
    cases hds
    rfl
  subst ed
  obtain ⟨ds1, hds1, b1_Ratio___init__⟩ := F_Ratio___init__.binds1 (ps := ["self", "top", "bottom"]) 2 0 (by simp) rfl fun T kV doc pm an cdv ct us its hl hl2 => match us, its, hl, hl2 with
    | [_, _], [e], _, _ => ⟨_, rfl, rfl⟩
  have F_Ratio_compare := fun_mk (st := s_Ratio_compare) l_Ratio_compare c_Ratio_compare k_Ratio_compare
  have b_Ratio_compare := F_Ratio_compare.binds (ps := ["self", "other"]) fun _ _ _ _ _ _ us hl => match us, hl with | [_, _], _ => rfl
  have F_Ratio_sign := fun_mk (st := s_Ratio_sign) l_Ratio_sign c_Ratio_sign k_Ratio_sign
  have b_Ratio_sign := F_Ratio_sign.binds (ps := ["self"]) fun _ _ _ _ _ _ us hl => match us, hl with | [_], _ => rfl
  have F_Ratio_divided := fun_mk (st := s_Ratio_divided) l_Ratio_divided c_Ratio_divided k_Ratio_divided
  have b_Ratio_divided := F_Ratio_divided.binds (ps := ["self", "other"]) fun _ _ _ _ _ _ us hl => match us, hl with | [_, _], _ => rfl
  have F_Ratio___add__ := fun_mk (st := s_Ratio___add__) l_Ratio___add__ c_Ratio___add__ k_Ratio___add__
  have b_Ratio___add__ := F_Ratio___add__.binds (ps := ["self", "other"]) fun _ _ _ _ _ _ us hl => match us, hl with | [_, _], _ => rfl
  have F_Ratio___sub__ := fun_mk (st := s_Ratio___sub__) l_Ratio___sub__ c_Ratio___sub__ k_Ratio___sub__
  have b_Ratio___sub__ := F_Ratio___sub__.binds (ps := ["self", "other"]) fun _ _ _ _ _ _ us hl => match us, hl with | [_, _], _ => rfl
  have F_Ratio___mul__ := fun_mk (st := s_Ratio___mul__) l_Ratio___mul__ c_Ratio___mul__ k_Ratio___mul__
  have b_Ratio___mul__ := F_Ratio___mul__.binds (ps := ["self", "other"]) fun _ _ _ _ _ _ us hl => match us, hl with | [_, _], _ => rfl
  have F_Ratio___neg__ := fun_mk (st := s_Ratio___neg__) l_Ratio___neg__ c_Ratio___neg__ k_Ratio___neg__
  have b_Ratio___neg__ := F_Ratio___neg__.binds (ps := ["self"]) fun _ _ _ _ _ _ us hl => match us, hl with | [_], _ => rfl
  have F_lesser := fun_mk (st := s_lesser) l_lesser c_lesser k_lesser
  have b_lesser := F_lesser.binds (ps := ["first", "second"]) fun _ _ _ _ _ _ us hl => match us, hl with | [_, _], _ => rfl
  have F_greater := fun_mk (st := s_greater) l_greater c_greater k_greater
  have b_greater := F_greater.binds (ps := ["first", "second"]) fun _ _ _ _ _ _ us hl => match us, hl with | [_, _], _ => rfl
  have F_Span___init__ := fun_mk (st := s_Span___init__) l_Span___init__ c_Span___init__ k_Span___init__
  have b_Span___init__ := F_Span___init__.binds (ps := ["self", "low", "high"]) fun _ _ _ _ _ _ us hl => match us, hl with | [_, _, _], _ => rfl
  have F_Span___add__ := fun_mk (st := s_Span___add__) l_Span___add__ c_Span___add__ k_Span___add__
  have b_Span___add__ := F_Span___add__.binds (ps := ["self", "other"]) fun _ _ _ _ _ _ us hl => match us, hl with | [_, _], _ => rfl
  have F_Span___sub__ := fun_mk (st := s_Span___sub__) l_Span___sub__ c_Span___sub__ k_Span___sub__
  have b_Span___sub__ := F_Span___sub__.binds (ps := ["self", "other"]) fun _ _ _ _ _ _ us hl => match us, hl with | [_, _], _ => rfl
  have F_Span___mul__ := fun_mk (st := s_Span___mul__) l_Span___mul__ c_Span___mul__ k_Span___mul__
  have b_Span___mul__ := F_Span___mul__.binds (ps := ["self", "other"]) fun _ _ _ _ _ _ us hl => match us, hl with | [_, _], _ => rfl
  have F_Span___neg__ := fun_mk (st := s_Span___neg__) l_Span___neg__ c_Span___neg__ k_Span___neg__
  have b_Span___neg__ := F_Span___neg__.binds (ps := ["self"]) fun _ _ _ _ _ _ us hl => match us, hl with | [_], _ => rfl
  have F_Span___contains__ := fun_mk (st := s_Span___contains__) l_Span___contains__ c_Span___contains__ k_Span___contains__
  have b_Span___contains__ := F_Span___contains__.binds (ps := ["self", "ratio"]) fun _ _ _ _ _ _ us hl => match us, hl with | [_, _], _ => rfl
  have F_Span_least := fun_mk (st := s_Span_least) l_Span_least c_Span_least k_Span_least
  have b_Span_least := F_Span_least.binds (ps := ["self", "other"]) fun _ _ _ _ _ _ us hl => match us, hl with | [_, _], _ => rfl
  have F_Span_greatest := fun_mk (st := s_Span_greatest) l_Span_greatest c_Span_greatest k_Span_greatest
  have b_Span_greatest := F_Span_greatest.binds (ps := ["self", "other"]) fun _ _ _ _ _ _ us hl => match us, hl with | [_, _], _ => rfl
  have F_Span_divided := fun_mk (st := s_Span_divided) l_Span_divided c_Span_divided k_Span_divided
  have b_Span_divided := F_Span_divided.binds (ps := ["self", "other"]) fun _ _ _ _ _ _ us hl => match us, hl with | [_, _], _ => rfl
  have F__law_start := fun_mk (st := s__law_start) l__law_start c__law_start k__law_start
  have b__law_start := F__law_start.binds (ps := ["script"]) fun _ _ _ _ _ _ us hl => match us, hl with | [_], _ => rfl
  have F__law_digit := fun_mk (st := s__law_digit) l__law_digit c__law_digit k__law_digit
  have b__law_digit := F__law_digit.binds (ps := ["pot", "many"]) fun _ _ _ _ _ _ us hl => match us, hl with | [_, _], _ => rfl
  have F__law_fraction := fun_mk (st := s__law_fraction) l__law_fraction c__law_fraction k__law_fraction
  have b__law_fraction := F__law_fraction.binds (ps := ["pot"]) fun _ _ _ _ _ _ us hl => match us, hl with | [_], _ => rfl
  have F__law_less := fun_mk (st := s__law_less) l__law_less c__law_less k__law_less
  have b__law_less := F__law_less.binds (ps := ["p", "q"]) fun _ _ _ _ _ _ us hl => match us, hl with | [_, _], _ => rfl
  have F__law_plus := fun_mk (st := s__law_plus) l__law_plus c__law_plus k__law_plus
  have b__law_plus := F__law_plus.binds (ps := ["p", "q"]) fun _ _ _ _ _ _ us hl => match us, hl with | [_, _], _ => rfl
  have F__law_ends := fun_mk (st := s__law_ends) l__law_ends c__law_ends k__law_ends
  have b__law_ends := F__law_ends.binds (ps := ["pot", "shift"]) fun _ _ _ _ _ _ us hl => match us, hl with | [_, _], _ => rfl
  have F__law_between := fun_mk (st := s__law_between) l__law_between c__law_between k__law_between
  have b__law_between := F__law_between.binds (ps := ["pot", "s"]) fun _ _ _ _ _ _ us hl => match us, hl with | [_, _], _ => rfl
  have F__law_own := fun_mk (st := s__law_own) l__law_own c__law_own k__law_own
  have b__law_own := F__law_own.binds (ps := ["op", "p", "q"]) fun _ _ _ _ _ _ us hl => match us, hl with | [_, _, _], _ => rfl
  have F__law_asked := fun_mk (st := s__law_asked) l__law_asked c__law_asked k__law_asked
  have b__law_asked := F__law_asked.binds (ps := ["op", "a", "b"]) fun _ _ _ _ _ _ us hl => match us, hl with | [_, _, _], _ => rfl
  have F__law_equals := fun_mk (st := s__law_equals) l__law_equals c__law_equals k__law_equals
  have b__law_equals := F__law_equals.binds (ps := ["told", "p"]) fun _ _ _ _ _ _ us hl => match us, hl with | [_, _], _ => rfl
  have F__law_is_span := fun_mk (st := s__law_is_span) l__law_is_span c__law_is_span k__law_is_span
  have b__law_is_span := F__law_is_span.binds (ps := ["told", "low", "high"]) fun _ _ _ _ _ _ us hl => match us, hl with | [_, _, _], _ => rfl
  have F__law_fits := fun_mk (st := s__law_fits) l__law_fits c__law_fits k__law_fits
  have b__law_fits := F__law_fits.binds (ps := ["told", "op", "s", "t", "x", "y"]) fun _ _ _ _ _ _ us hl => match us, hl with | [_, _, _, _, _, _], _ => rfl
  have F__law_no_quotient := fun_mk (st := s__law_no_quotient) l__law_no_quotient c__law_no_quotient k__law_no_quotient
  have b__law_no_quotient := F__law_no_quotient.binds (ps := ["a", "b"]) fun _ _ _ _ _ _ us hl => match us, hl with | [_, _], _ => rfl
  have F__law_all := fun_mk (st := s__law_all) l__law_all c__law_all k__law_all
  have b__law_all := F__law_all.binds (ps := ["a", "b", "s", "t", "x", "y"]) fun _ _ _ _ _ _ us hl => match us, hl with | [_, _, _, _, _, _], _ => rfl
  have F_law := fun_mk (st := s_law) l_law c_law k_law
  have b_law := F_law.binds (ps := ["script"]) fun _ _ _ _ _ _ us hl => match us, hl with | [_], _ => rfl
  refine ⟨PySem.W.fnOf "law" "law" (defArgs s_law) (defBody s_law) (defScope s_law) .none kV_law dc_law pm_law an_law cd_law ct_law, fun s v => .of_eq rfl, fun base _ _ => ?_⟩
  have T : Txt ⟨l.prog, w, K, mg, base⟩ C_Ratio C_Span C_ZeroBottom C_Apart C_CarryError := { n_abs := PySem.W.mg_none_of X Gn z_abs, n_len := PySem.W.mg_none_of X Gn z_len, n_int := PySem.W.mg_none_of X Gn z_int, n_bool := PySem.W.mg_none_of X Gn z_bool, n_range := PySem.W.mg_none_of X Gn z_range, n_isinstance := PySem.W.mg_none_of X Gn z_isinstance, n_ValueError := PySem.W.mg_none_of X Gn z_ValueError, mg_gcd := PySem.W.mg_of X Gn v_gcd, mg_Ratio := PySem.W.mg_of X Gn a_Ratio, mg_Span := PySem.W.mg_of X Gn a_Span, mg_ZeroBottom := PySem.W.mg_of X Gn a_ZeroBottom, mg_Apart := PySem.W.mg_of X Gn a_Apart, mg_CarryError := PySem.W.mg_of X Gn a_CarryError, R_Ratio := S0_Ratio, S_Span := S0_Span, x0_ZeroBottom := ⟨xi_ZeroBottom, kc_ZeroBottom, ex_ZeroBottom, ty_ZeroBottom, PySem.W.mg_of X Gn a_ZeroBottom⟩, XC_ZeroBottom := ⟨⟨ga_ZeroBottom, gg_ZeroBottom, ex_ZeroBottom, hd_ZeroBottom⟩, is_ZeroBottom, ha_ZeroBottom, gs, gt, mo_ZeroBottom⟩, is_Ratio_Ratio := kit_self, is_Span_Span := kit_self, is_ZeroBottom_ZeroBottom := kit_self, is_ZeroBottom_Apart := kit_no su_ZeroBottom is_Apart ty_Apart su_ZeroBottom_Apart, isT_ZeroBottom_ValueError := kit_val sT_ZeroBottom_ValueError, ex_ZeroBottom_CarryError := PySem.W.exm_ref ex_CarryError hd_CarryError ty_CarryError su_ZeroBottom_CarryError }
  have k_Ratio : Mak ⟨l.prog, w, K, mg, base⟩ _ "Ratio" C_Ratio _ _ [] := ⟨⟨f_Ratio___init__, ok_init T F_Ratio___init__ b_Ratio___init__ .nil rfl, ⟨mk_Ratio, a_Ratio___init__, i_Ratio___init__, kc_Ratio⟩⟩, T.mg_Ratio⟩
  have k1_Ratio : Mak ⟨l.prog, w, K, mg, base⟩ _ "Ratio" C_Ratio _ _ [.int 1] := ⟨⟨f_Ratio___init__, ok_init T F_Ratio___init__ b1_Ratio___init__ hds1 rfl, ⟨mk_Ratio, a_Ratio___init__, i_Ratio___init__, kc_Ratio⟩⟩, T.mg_Ratio⟩
  have m_Ratio_compare : Met ⟨l.prog, w, K, mg, base⟩ _ C_Ratio ["top", "bottom"] "compare" _ _ [] := ⟨⟨f_Ratio_compare, ok_qcmp T F_Ratio_compare b_Ratio_compare, ⟨a_Ratio_compare, i_Ratio_compare, k_Ratio_compare⟩⟩, cls_Ratio, by decide +kernel⟩
  have m_Ratio_sign : Met ⟨l.prog, w, K, mg, base⟩ _ C_Ratio ["top", "bottom"] "sign" _ _ [] := ⟨⟨f_Ratio_sign, ok_qsign T F_Ratio_sign b_Ratio_sign, ⟨a_Ratio_sign, i_Ratio_sign, k_Ratio_sign⟩⟩, cls_Ratio, by decide +kernel⟩
  have m_Ratio_divided : Met ⟨l.prog, w, K, mg, base⟩ _ C_Ratio ["top", "bottom"] "divided" _ _ [] := ⟨⟨f_Ratio_divided, ok_qdiv T k_Ratio F_Ratio_divided b_Ratio_divided, ⟨a_Ratio_divided, i_Ratio_divided, k_Ratio_divided⟩⟩, cls_Ratio, by decide +kernel⟩
  have o_Ratio___add__ : Opr ⟨l.prog, w, K, mg, base⟩ _ C_Ratio "__add__" _ _ := ⟨⟨f_Ratio___add__, ok_qadd T k_Ratio F_Ratio___add__ b_Ratio___add__, a_Ratio___add__, i_Ratio___add__⟩, cls_Ratio, sf_Ratio⟩
  have o_Ratio___sub__ : Opr ⟨l.prog, w, K, mg, base⟩ _ C_Ratio "__sub__" _ _ := ⟨⟨f_Ratio___sub__, ok_qsub T k_Ratio F_Ratio___sub__ b_Ratio___sub__, a_Ratio___sub__, i_Ratio___sub__⟩, cls_Ratio, sf_Ratio⟩
  have o_Ratio___mul__ : Opr ⟨l.prog, w, K, mg, base⟩ _ C_Ratio "__mul__" _ _ := ⟨⟨f_Ratio___mul__, ok_qmul T k_Ratio F_Ratio___mul__ b_Ratio___mul__, a_Ratio___mul__, i_Ratio___mul__⟩, cls_Ratio, sf_Ratio⟩
  have o_Ratio___neg__ : Opr ⟨l.prog, w, K, mg, base⟩ _ C_Ratio "__neg__" _ _ := ⟨⟨f_Ratio___neg__, ok_qneg T k_Ratio F_Ratio___neg__ b_Ratio___neg__, a_Ratio___neg__, i_Ratio___neg__⟩, cls_Ratio, sf_Ratio⟩
  have c_lesser : Cal ⟨l.prog, w, K, mg, base⟩ _ "lesser" _ _ [] := ⟨⟨_, ok_lesser T m_Ratio_compare F_lesser b_lesser, PySem.W.mg_of X Gn a_lesser, k_lesser⟩⟩
  have c_greater : Cal ⟨l.prog, w, K, mg, base⟩ _ "greater" _ _ [] := ⟨⟨_, ok_greater T m_Ratio_compare F_greater b_greater, PySem.W.mg_of X Gn a_greater, k_greater⟩⟩
  have k_Span : Mak ⟨l.prog, w, K, mg, base⟩ _ "Span" C_Span _ _ [] := ⟨⟨f_Span___init__, ok_sinit T m_Ratio_compare F_Span___init__ b_Span___init__, ⟨mk_Span, a_Span___init__, i_Span___init__, kc_Span⟩⟩, T.mg_Span⟩
  have o_Span___add__ : Opr ⟨l.prog, w, K, mg, base⟩ _ C_Span "__add__" _ _ := ⟨⟨f_Span___add__, ok_sadd T k_Span o_Ratio___add__ F_Span___add__ b_Span___add__, a_Span___add__, i_Span___add__⟩, cls_Span, sf_Span⟩
  have o_Span___sub__ : Opr ⟨l.prog, w, K, mg, base⟩ _ C_Span "__sub__" _ _ := ⟨⟨f_Span___sub__, ok_ssub T k_Span o_Ratio___sub__ F_Span___sub__ b_Span___sub__, a_Span___sub__, i_Span___sub__⟩, cls_Span, sf_Span⟩
  have o_Span___mul__ : Opr ⟨l.prog, w, K, mg, base⟩ _ C_Span "__mul__" _ _ := ⟨⟨f_Span___mul__, ok_smul T k_Span o_Ratio___mul__ c_lesser c_greater F_Span___mul__ b_Span___mul__, a_Span___mul__, i_Span___mul__⟩, cls_Span, sf_Span⟩
  have o_Span___neg__ : Opr ⟨l.prog, w, K, mg, base⟩ _ C_Span "__neg__" _ _ := ⟨⟨f_Span___neg__, ok_sneg T k_Span o_Ratio___neg__ F_Span___neg__ b_Span___neg__, a_Span___neg__, i_Span___neg__⟩, cls_Span, sf_Span⟩
  have o_Span___contains__ : Opr ⟨l.prog, w, K, mg, base⟩ _ C_Span "__contains__" _ _ := ⟨⟨f_Span___contains__, ok_scont T m_Ratio_compare F_Span___contains__ b_Span___contains__, a_Span___contains__, i_Span___contains__⟩, cls_Span, sf_Span⟩
  have m_Span_least : Met ⟨l.prog, w, K, mg, base⟩ _ C_Span ["low", "high"] "least" _ _ [] := ⟨⟨f_Span_least, ok_sleast T k_Span c_lesser F_Span_least b_Span_least, ⟨a_Span_least, i_Span_least, k_Span_least⟩⟩, cls_Span, by decide +kernel⟩
  have m_Span_greatest : Met ⟨l.prog, w, K, mg, base⟩ _ C_Span ["low", "high"] "greatest" _ _ [] := ⟨⟨f_Span_greatest, ok_sgreat T k_Span c_greater F_Span_greatest b_Span_greatest, ⟨a_Span_greatest, i_Span_greatest, k_Span_greatest⟩⟩, cls_Span, by decide +kernel⟩
  have m_Span_divided : Met ⟨l.prog, w, K, mg, base⟩ _ C_Span ["low", "high"] "divided" _ _ [] := ⟨⟨f_Span_divided, ok_sdiv T k1_Ratio k_Span m_Ratio_sign m_Ratio_divided o_Span___mul__ F_Span_divided b_Span_divided, ⟨a_Span_divided, i_Span_divided, k_Span_divided⟩⟩, cls_Span, by decide +kernel⟩
  have c__law_start : Cal ⟨l.prog, w, K, mg, base⟩ _ "_law_start" _ _ [] := ⟨⟨_, ok_pot T F__law_start b__law_start, PySem.W.mg_of X Gn a__law_start, k__law_start⟩⟩
  have c__law_digit : Cal ⟨l.prog, w, K, mg, base⟩ _ "_law_digit" _ _ [] := ⟨⟨_, ok_digit T F__law_digit b__law_digit, PySem.W.mg_of X Gn a__law_digit, k__law_digit⟩⟩
  have c__law_fraction : Cal ⟨l.prog, w, K, mg, base⟩ _ "_law_fraction" _ _ [] := ⟨⟨_, ok_fraction T c__law_digit F__law_fraction b__law_fraction, PySem.W.mg_of X Gn a__law_fraction, k__law_fraction⟩⟩
  have c__law_less : Cal ⟨l.prog, w, K, mg, base⟩ _ "_law_less" _ _ [] := ⟨⟨_, ok_less T F__law_less b__law_less, PySem.W.mg_of X Gn a__law_less, k__law_less⟩⟩
  have c__law_plus : Cal ⟨l.prog, w, K, mg, base⟩ _ "_law_plus" _ _ [] := ⟨⟨_, ok_plus T F__law_plus b__law_plus, PySem.W.mg_of X Gn a__law_plus, k__law_plus⟩⟩
  have c__law_ends : Cal ⟨l.prog, w, K, mg, base⟩ _ "_law_ends" _ _ [] := ⟨⟨_, ok_ends T c__law_digit c__law_fraction c__law_less c__law_plus F__law_ends b__law_ends, PySem.W.mg_of X Gn a__law_ends, k__law_ends⟩⟩
  have c__law_between : Cal ⟨l.prog, w, K, mg, base⟩ _ "_law_between" _ _ [] := ⟨⟨_, ok_between T c__law_digit c__law_plus F__law_between b__law_between, PySem.W.mg_of X Gn a__law_between, k__law_between⟩⟩
  have c__law_own : Cal ⟨l.prog, w, K, mg, base⟩ _ "_law_own" _ _ [] := ⟨⟨_, ok_own T c__law_less c__law_plus F__law_own b__law_own, PySem.W.mg_of X Gn a__law_own, k__law_own⟩⟩
  have c__law_asked : Cal ⟨l.prog, w, K, mg, base⟩ _ "_law_asked" _ _ [] := ⟨⟨_, ok_asked T o_Span___add__ o_Span___sub__ o_Span___mul__ m_Span_least m_Span_greatest m_Span_divided F__law_asked b__law_asked, PySem.W.mg_of X Gn a__law_asked, k__law_asked⟩⟩
  have c__law_equals : Cal ⟨l.prog, w, K, mg, base⟩ _ "_law_equals" _ _ [] := ⟨⟨_, ok_equals T F__law_equals b__law_equals, PySem.W.mg_of X Gn a__law_equals, k__law_equals⟩⟩
  have c__law_is_span : Cal ⟨l.prog, w, K, mg, base⟩ _ "_law_is_span" _ _ [] := ⟨⟨_, ok_is_span T c__law_equals F__law_is_span b__law_is_span, PySem.W.mg_of X Gn a__law_is_span, k__law_is_span⟩⟩
  have c__law_fits : Cal ⟨l.prog, w, K, mg, base⟩ _ "_law_fits" _ _ [] := ⟨⟨_, ok_fits T k_Ratio o_Span___contains__ c__law_own c__law_less c__law_is_span F__law_fits b__law_fits, PySem.W.mg_of X Gn a__law_fits, k__law_fits⟩⟩
  have c__law_no_quotient : Cal ⟨l.prog, w, K, mg, base⟩ _ "_law_no_quotient" _ _ [] := ⟨⟨_, ok_no_quotient T m_Span_divided F__law_no_quotient b__law_no_quotient, PySem.W.mg_of X Gn a__law_no_quotient, k__law_no_quotient⟩⟩
  have c__law_all : Cal ⟨l.prog, w, K, mg, base⟩ _ "_law_all" _ _ [] := ⟨⟨_, ok_all T c__law_asked c__law_fits c__law_no_quotient F__law_all b__law_all, PySem.W.mg_of X Gn a__law_all, k__law_all⟩⟩
  exact ok_law T k_Ratio k_Span o_Span___neg__ c__law_start c__law_ends c__law_between c__law_all c__law_is_span F_law
end K05
set_option Elab.async false
set_option linter.all false
/-
{C_Ratio : Addr} {C_Span : Addr} {C_ZeroBottom : Addr} {C_Apart : Addr} {C_CarryError : Addr} {f_Ratio___init__ : Addr} {od_Ratio___init__ an_Ratio___init__ : Option Addr} {sl_Ratio___init__ : Array (Option Value)} {oc_Ratio___init__ kV_Ratio___init__ dc_Ratio___init__ pm_Ratio___init__ cd_Ratio___init__ ct_Ratio___init__ : Value} {T_Ratio___init__ : Addr} {tk_Ratio___init__ : Tok} {oT_Ratio___init__ : Option Addr} {nT_Ratio___init__ : Nat} {sT_Ratio___init__ : Array (Option Value)} {cT_Ratio___init__ : Value} {f_Ratio_compare : Addr} {od_Ratio_compare an_Ratio_compare : Option Addr} {sl_Ratio_compare : Array (Option Value)} {oc_Ratio_compare kV_Ratio_compare dc_Ratio_compare pm_Ratio_compare cd_Ratio_compare ct_Ratio_compare : Value} {f_Ratio_sign : Addr} {od_Ratio_sign an_Ratio_sign : Option Addr} {sl_Ratio_sign : Array (Option Value)} {oc_Ratio_sign kV_Ratio_sign dc_Ratio_sign pm_Ratio_sign cd_Ratio_sign ct_Ratio_sign : Value} {f_Ratio_divided : Addr} {od_Ratio_divided an_Ratio_divided : Option Addr} {sl_Ratio_divided : Array (Option Value)} {oc_Ratio_divided kV_Ratio_divided dc_Ratio_divided pm_Ratio_divided cd_Ratio_divided ct_Ratio_divided : Value} {f_Ratio___add__ : Addr} {od_Ratio___add__ an_Ratio___add__ : Option Addr} {sl_Ratio___add__ : Array (Option Value)} {oc_Ratio___add__ kV_Ratio___add__ dc_Ratio___add__ pm_Ratio___add__ cd_Ratio___add__ ct_Ratio___add__ : Value} {f_Ratio___sub__ : Addr} {od_Ratio___sub__ an_Ratio___sub__ : Option Addr} {sl_Ratio___sub__ : Array (Option Value)} {oc_Ratio___sub__ kV_Ratio___sub__ dc_Ratio___sub__ pm_Ratio___sub__ cd_Ratio___sub__ ct_Ratio___sub__ : Value} {f_Ratio___mul__ : Addr} {od_Ratio___mul__ an_Ratio___mul__ : Option Addr} {sl_Ratio___mul__ : Array (Option Value)} {oc_Ratio___mul__ kV_Ratio___mul__ dc_Ratio___mul__ pm_Ratio___mul__ cd_Ratio___mul__ ct_Ratio___mul__ : Value} {f_Ratio___neg__ : Addr} {od_Ratio___neg__ an_Ratio___neg__ : Option Addr} {sl_Ratio___neg__ : Array (Option Value)} {oc_Ratio___neg__ kV_Ratio___neg__ dc_Ratio___neg__ pm_Ratio___neg__ cd_Ratio___neg__ ct_Ratio___neg__ : Value} {f_lesser : Addr} {od_lesser an_lesser : Option Addr} {sl_lesser : Array (Option Value)} {oc_lesser kV_lesser dc_lesser pm_lesser cd_lesser ct_lesser : Value} {f_greater : Addr} {od_greater an_greater : Option Addr} {sl_greater : Array (Option Value)} {oc_greater kV_greater dc_greater pm_greater cd_greater ct_greater : Value} {f_Span___init__ : Addr} {od_Span___init__ an_Span___init__ : Option Addr} {sl_Span___init__ : Array (Option Value)} {oc_Span___init__ kV_Span___init__ dc_Span___init__ pm_Span___init__ cd_Span___init__ ct_Span___init__ : Value} {f_Span___add__ : Addr} {od_Span___add__ an_Span___add__ : Option Addr} {sl_Span___add__ : Array (Option Value)} {oc_Span___add__ kV_Span___add__ dc_Span___add__ pm_Span___add__ cd_Span___add__ ct_Span___add__ : Value} {f_Span___sub__ : Addr} {od_Span___sub__ an_Span___sub__ : Option Addr} {sl_Span___sub__ : Array (Option Value)} {oc_Span___sub__ kV_Span___sub__ dc_Span___sub__ pm_Span___sub__ cd_Span___sub__ ct_Span___sub__ : Value} {f_Span___mul__ : Addr} {od_Span___mul__ an_Span___mul__ : Option Addr} {sl_Span___mul__ : Array (Option Value)} {oc_Span___mul__ kV_Span___mul__ dc_Span___mul__ pm_Span___mul__ cd_Span___mul__ ct_Span___mul__ : Value} {f_Span___neg__ : Addr} {od_Span___neg__ an_Span___neg__ : Option Addr} {sl_Span___neg__ : Array (Option Value)} {oc_Span___neg__ kV_Span___neg__ dc_Span___neg__ pm_Span___neg__ cd_Span___neg__ ct_Span___neg__ : Value} {f_Span___contains__ : Addr} {od_Span___contains__ an_Span___contains__ : Option Addr} {sl_Span___contains__ : Array (Option Value)} {oc_Span___contains__ kV_Span___contains__ dc_Span___contains__ pm_Span___contains__ cd_Span___contains__ ct_Span___contains__ : Value} {f_Span_least : Addr} {od_Span_least an_Span_least : Option Addr} {sl_Span_least : Array (Option Value)} {oc_Span_least kV_Span_least dc_Span_least pm_Span_least cd_Span_least ct_Span_least : Value} {f_Span_greatest : Addr} {od_Span_greatest an_Span_greatest : Option Addr} {sl_Span_greatest : Array (Option Value)} {oc_Span_greatest kV_Span_greatest dc_Span_greatest pm_Span_greatest cd_Span_greatest ct_Span_greatest : Value} {f_Span_divided : Addr} {od_Span_divided an_Span_divided : Option Addr} {sl_Span_divided : Array (Option Value)} {oc_Span_divided kV_Span_divided dc_Span_divided pm_Span_divided cd_Span_divided ct_Span_divided : Value} {f__law_start : Addr} {od__law_start an__law_start : Option Addr} {sl__law_start : Array (Option Value)} {oc__law_start kV__law_start dc__law_start pm__law_start cd__law_start ct__law_start : Value} {f__law_digit : Addr} {od__law_digit an__law_digit : Option Addr} {sl__law_digit : Array (Option Value)} {oc__law_digit kV__law_digit dc__law_digit pm__law_digit cd__law_digit ct__law_digit : Value} {f__law_fraction : Addr} {od__law_fraction an__law_fraction : Option Addr} {sl__law_fraction : Array (Option Value)} {oc__law_fraction kV__law_fraction dc__law_fraction pm__law_fraction cd__law_fraction ct__law_fraction : Value} {f__law_less : Addr} {od__law_less an__law_less : Option Addr} {sl__law_less : Array (Option Value)} {oc__law_less kV__law_less dc__law_less pm__law_less cd__law_less ct__law_less : Value} {f__law_plus : Addr} {od__law_plus an__law_plus : Option Addr} {sl__law_plus : Array (Option Value)} {oc__law_plus kV__law_plus dc__law_plus pm__law_plus cd__law_plus ct__law_plus : Value} {f__law_ends : Addr} {od__law_ends an__law_ends : Option Addr} {sl__law_ends : Array (Option Value)} {oc__law_ends kV__law_ends dc__law_ends pm__law_ends cd__law_ends ct__law_ends : Value} {f__law_between : Addr} {od__law_between an__law_between : Option Addr} {sl__law_between : Array (Option Value)} {oc__law_between kV__law_between dc__law_between pm__law_between cd__law_between ct__law_between : Value} {f__law_own : Addr} {od__law_own an__law_own : Option Addr} {sl__law_own : Array (Option Value)} {oc__law_own kV__law_own dc__law_own pm__law_own cd__law_own ct__law_own : Value} {f__law_asked : Addr} {od__law_asked an__law_asked : Option Addr} {sl__law_asked : Array (Option Value)} {oc__law_asked kV__law_asked dc__law_asked pm__law_asked cd__law_asked ct__law_asked : Value} {f__law_equals : Addr} {od__law_equals an__law_equals : Option Addr} {sl__law_equals : Array (Option Value)} {oc__law_equals kV__law_equals dc__law_equals pm__law_equals cd__law_equals ct__law_equals : Value} {f__law_is_span : Addr} {od__law_is_span an__law_is_span : Option Addr} {sl__law_is_span : Array (Option Value)} {oc__law_is_span kV__law_is_span dc__law_is_span pm__law_is_span cd__law_is_span ct__law_is_span : Value} {f__law_fits : Addr} {od__law_fits an__law_fits : Option Addr} {sl__law_fits : Array (Option Value)} {oc__law_fits kV__law_fits dc__law_fits pm__law_fits cd__law_fits ct__law_fits : Value} {f__law_no_quotient : Addr} {od__law_no_quotient an__law_no_quotient : Option Addr} {sl__law_no_quotient : Array (Option Value)} {oc__law_no_quotient kV__law_no_quotient dc__law_no_quotient pm__law_no_quotient cd__law_no_quotient ct__law_no_quotient : Value} {f__law_all : Addr} {od__law_all an__law_all : Option Addr} {sl__law_all : Array (Option Value)} {oc__law_all kV__law_all dc__law_all pm__law_all cd__law_all ct__law_all : Value} {f_law : Addr} {od_law an_law : Option Addr} {sl_law : Array (Option Value)} {oc_law kV_law dc_law pm_law cd_law ct_law : Value}
    (a_Ratio : PySem.W.nsIn K mainGlobals "Ratio" = some (some (.ref C_Ratio)))
    (pg_Ratio : PySem.W.plainGet K C_Ratio Str.empty = true)
    (hd_Ratio : PySem.W.hasDictIn K C_Ratio = true)
    (po_Ratio : PySem.W.plainOver K C_Ratio = true)
    (sa_Ratio : PySem.W.findIn K (.ref C_Ratio) "__setattr__" = some (some (.builtin "object.__setattr__")))
    (mk_Ratio : PySem.W.makesIn K C_Ratio = true)
    (sf_Ratio : PySem.W.selfFirst K C_Ratio = true)
    (kc_Ratio : PySem.W.keepIn K (.ref C_Ratio) = true)
    (ha_Ratio : PySem.W.findIn K (.ref C_Ratio) "__class__" = some (some (.builtin "object.__class__")))
    (mo_Ratio : PySem.W.mroIn K C_Ratio (.type "object") = some true)
    (no_top_Ratio : PySem.W.findIn K (.ref C_Ratio) "top" = some none)
    (no_bottom_Ratio : PySem.W.findIn K (.ref C_Ratio) "bottom" = some none)
    (a_Span : PySem.W.nsIn K mainGlobals "Span" = some (some (.ref C_Span)))
    (pg_Span : PySem.W.plainGet K C_Span Str.empty = true)
    (hd_Span : PySem.W.hasDictIn K C_Span = true)
    (po_Span : PySem.W.plainOver K C_Span = true)
    (sa_Span : PySem.W.findIn K (.ref C_Span) "__setattr__" = some (some (.builtin "object.__setattr__")))
    (mk_Span : PySem.W.makesIn K C_Span = true)
    (sf_Span : PySem.W.selfFirst K C_Span = true)
    (kc_Span : PySem.W.keepIn K (.ref C_Span) = true)
    (ha_Span : PySem.W.findIn K (.ref C_Span) "__class__" = some (some (.builtin "object.__class__")))
    (mo_Span : PySem.W.mroIn K C_Span (.type "object") = some true)
    (no_low_Span : PySem.W.findIn K (.ref C_Span) "low" = some none)
    (no_high_Span : PySem.W.findIn K (.ref C_Span) "high" = some none)
    (a_ZeroBottom : PySem.W.nsIn K mainGlobals "ZeroBottom" = some (some (.ref C_ZeroBottom)))
    (xi_ZeroBottom : PySem.W.excIn K C_ZeroBottom [.type "ValueError", .type "Exception", .type "BaseException", .type "object"] "ValueError.__new__" = true)
    (ex_ZeroBottom : PySem.W.subIn K (.ref C_ZeroBottom) (.type "BaseException") = some true)
    (ty_ZeroBottom : PySem.W.typeIn K (.ref C_ZeroBottom) = some (.type "type"))
    (kc_ZeroBottom : PySem.W.keepIn K (.ref C_ZeroBottom) = true)
    (ga_ZeroBottom : PySem.W.findIn K (.ref C_ZeroBottom) "__getattribute__" = some (some (.builtin "BaseException.__getattribute__")))
    (gg_ZeroBottom : PySem.W.findIn K (.ref C_ZeroBottom) "__getattr__" = some none)
    (hd_ZeroBottom : PySem.W.hasDictIn K C_ZeroBottom = true)
    (ha_ZeroBottom : PySem.W.findIn K (.ref C_ZeroBottom) "__class__" = some (some (.builtin "object.__class__")))
    (mo_ZeroBottom : PySem.W.mroIn K C_ZeroBottom (.type "object") = some true)
    (is_ZeroBottom : PySem.W.isClsIn K C_ZeroBottom = true)
    (su_ZeroBottom : PySem.W.subIn K (.ref C_ZeroBottom) (.ref C_ZeroBottom) = some true)
    (a_Apart : PySem.W.nsIn K mainGlobals "Apart" = some (some (.ref C_Apart)))
    (ex_Apart : PySem.W.subIn K (.ref C_Apart) (.type "BaseException") = some true)
    (ty_Apart : PySem.W.typeIn K (.ref C_Apart) = some (.type "type"))
    (hd_Apart : PySem.W.hasDictIn K C_Apart = true)
    (is_Apart : PySem.W.isClsIn K C_Apart = true)
    (a_CarryError : PySem.W.nsIn K mainGlobals "CarryError" = some (some (.ref C_CarryError)))
    (ex_CarryError : PySem.W.subIn K (.ref C_CarryError) (.type "BaseException") = some true)
    (ty_CarryError : PySem.W.typeIn K (.ref C_CarryError) = some (.type "type"))
    (hd_CarryError : PySem.W.hasDictIn K C_CarryError = true)
    (is_CarryError : PySem.W.isClsIn K C_CarryError = true)
    (su_ZeroBottom_Apart : PySem.W.subIn K (.ref C_ZeroBottom) (.ref C_Apart) = some false)
    (su_ZeroBottom_CarryError : PySem.W.subIn K (.ref C_ZeroBottom) (.ref C_CarryError) = some true)
    (sT_ZeroBottom_ValueError : PySem.W.subIn K (.ref C_ZeroBottom) (.type "ValueError") = some true)
    (gs : PySem.W.specialIn K (.builtin "object.__class__") "__get__" = some (some (.builtin "getset_descriptor.__get__")))
    (gt : PySem.W.takesIn K (.builtin "object.__class__") = some true)
    (a_Ratio___init__ : PySem.W.findIn K (.ref C_Ratio) "__init__" = some (some (.ref f_Ratio___init__)))
    (i_Ratio___init__ : PySem.W.isFn K (.ref f_Ratio___init__) = true)
    (l_Ratio___init__ : K.lookup f_Ratio___init__ = some ⟨oc_Ratio___init__, od_Ratio___init__, .func (PySem.W.fnOf "__init__" "Ratio.__init__" (defArgs s_Ratio___init__) (defBody s_Ratio___init__) (defScope s_Ratio___init__) (.ref T_Ratio___init__) kV_Ratio___init__ dc_Ratio___init__ pm_Ratio___init__ an_Ratio___init__ cd_Ratio___init__ ct_Ratio___init__), sl_Ratio___init__⟩)
    (lT_Ratio___init__ : K.lookup T_Ratio___init__ = some ⟨cT_Ratio___init__, oT_Ratio___init__, .seq [Value.int 1 tk_Ratio___init__].toArray nT_Ratio___init__, sT_Ratio___init__⟩)
    (c_Ratio___init__ : PySem.W.codeIn K cd_Ratio___init__ "Ratio.__init__" = true)
    (k_Ratio___init__ : PySem.W.keepIn K (.ref f_Ratio___init__) = true)
    (a_Ratio_compare : PySem.W.findIn K (.ref C_Ratio) "compare" = some (some (.ref f_Ratio_compare)))
    (i_Ratio_compare : PySem.W.isFn K (.ref f_Ratio_compare) = true)
    (l_Ratio_compare : K.lookup f_Ratio_compare = some ⟨oc_Ratio_compare, od_Ratio_compare, .func (PySem.W.fnOf "compare" "Ratio.compare" (defArgs s_Ratio_compare) (defBody s_Ratio_compare) (defScope s_Ratio_compare) .none kV_Ratio_compare dc_Ratio_compare pm_Ratio_compare an_Ratio_compare cd_Ratio_compare ct_Ratio_compare), sl_Ratio_compare⟩)
    (c_Ratio_compare : PySem.W.codeIn K cd_Ratio_compare "Ratio.compare" = true)
    (k_Ratio_compare : PySem.W.keepIn K (.ref f_Ratio_compare) = true)
    (a_Ratio_sign : PySem.W.findIn K (.ref C_Ratio) "sign" = some (some (.ref f_Ratio_sign)))
    (i_Ratio_sign : PySem.W.isFn K (.ref f_Ratio_sign) = true)
    (l_Ratio_sign : K.lookup f_Ratio_sign = some ⟨oc_Ratio_sign, od_Ratio_sign, .func (PySem.W.fnOf "sign" "Ratio.sign" (defArgs s_Ratio_sign) (defBody s_Ratio_sign) (defScope s_Ratio_sign) .none kV_Ratio_sign dc_Ratio_sign pm_Ratio_sign an_Ratio_sign cd_Ratio_sign ct_Ratio_sign), sl_Ratio_sign⟩)
    (c_Ratio_sign : PySem.W.codeIn K cd_Ratio_sign "Ratio.sign" = true)
    (k_Ratio_sign : PySem.W.keepIn K (.ref f_Ratio_sign) = true)
    (a_Ratio_divided : PySem.W.findIn K (.ref C_Ratio) "divided" = some (some (.ref f_Ratio_divided)))
    (i_Ratio_divided : PySem.W.isFn K (.ref f_Ratio_divided) = true)
    (l_Ratio_divided : K.lookup f_Ratio_divided = some ⟨oc_Ratio_divided, od_Ratio_divided, .func (PySem.W.fnOf "divided" "Ratio.divided" (defArgs s_Ratio_divided) (defBody s_Ratio_divided) (defScope s_Ratio_divided) .none kV_Ratio_divided dc_Ratio_divided pm_Ratio_divided an_Ratio_divided cd_Ratio_divided ct_Ratio_divided), sl_Ratio_divided⟩)
    (c_Ratio_divided : PySem.W.codeIn K cd_Ratio_divided "Ratio.divided" = true)
    (k_Ratio_divided : PySem.W.keepIn K (.ref f_Ratio_divided) = true)
    (a_Ratio___add__ : PySem.W.findIn K (.ref C_Ratio) "__add__" = some (some (.ref f_Ratio___add__)))
    (i_Ratio___add__ : PySem.W.isFn K (.ref f_Ratio___add__) = true)
    (l_Ratio___add__ : K.lookup f_Ratio___add__ = some ⟨oc_Ratio___add__, od_Ratio___add__, .func (PySem.W.fnOf "__add__" "Ratio.__add__" (defArgs s_Ratio___add__) (defBody s_Ratio___add__) (defScope s_Ratio___add__) .none kV_Ratio___add__ dc_Ratio___add__ pm_Ratio___add__ an_Ratio___add__ cd_Ratio___add__ ct_Ratio___add__), sl_Ratio___add__⟩)
    (c_Ratio___add__ : PySem.W.codeIn K cd_Ratio___add__ "Ratio.__add__" = true)
    (k_Ratio___add__ : PySem.W.keepIn K (.ref f_Ratio___add__) = true)
    (a_Ratio___sub__ : PySem.W.findIn K (.ref C_Ratio) "__sub__" = some (some (.ref f_Ratio___sub__)))
    (i_Ratio___sub__ : PySem.W.isFn K (.ref f_Ratio___sub__) = true)
    (l_Ratio___sub__ : K.lookup f_Ratio___sub__ = some ⟨oc_Ratio___sub__, od_Ratio___sub__, .func (PySem.W.fnOf "__sub__" "Ratio.__sub__" (defArgs s_Ratio___sub__) (defBody s_Ratio___sub__) (defScope s_Ratio___sub__) .none kV_Ratio___sub__ dc_Ratio___sub__ pm_Ratio___sub__ an_Ratio___sub__ cd_Ratio___sub__ ct_Ratio___sub__), sl_Ratio___sub__⟩)
    (c_Ratio___sub__ : PySem.W.codeIn K cd_Ratio___sub__ "Ratio.__sub__" = true)
    (k_Ratio___sub__ : PySem.W.keepIn K (.ref f_Ratio___sub__) = true)
    (a_Ratio___mul__ : PySem.W.findIn K (.ref C_Ratio) "__mul__" = some (some (.ref f_Ratio___mul__)))
    (i_Ratio___mul__ : PySem.W.isFn K (.ref f_Ratio___mul__) = true)
    (l_Ratio___mul__ : K.lookup f_Ratio___mul__ = some ⟨oc_Ratio___mul__, od_Ratio___mul__, .func (PySem.W.fnOf "__mul__" "Ratio.__mul__" (defArgs s_Ratio___mul__) (defBody s_Ratio___mul__) (defScope s_Ratio___mul__) .none kV_Ratio___mul__ dc_Ratio___mul__ pm_Ratio___mul__ an_Ratio___mul__ cd_Ratio___mul__ ct_Ratio___mul__), sl_Ratio___mul__⟩)
    (c_Ratio___mul__ : PySem.W.codeIn K cd_Ratio___mul__ "Ratio.__mul__" = true)
    (k_Ratio___mul__ : PySem.W.keepIn K (.ref f_Ratio___mul__) = true)
    (a_Ratio___neg__ : PySem.W.findIn K (.ref C_Ratio) "__neg__" = some (some (.ref f_Ratio___neg__)))
    (i_Ratio___neg__ : PySem.W.isFn K (.ref f_Ratio___neg__) = true)
    (l_Ratio___neg__ : K.lookup f_Ratio___neg__ = some ⟨oc_Ratio___neg__, od_Ratio___neg__, .func (PySem.W.fnOf "__neg__" "Ratio.__neg__" (defArgs s_Ratio___neg__) (defBody s_Ratio___neg__) (defScope s_Ratio___neg__) .none kV_Ratio___neg__ dc_Ratio___neg__ pm_Ratio___neg__ an_Ratio___neg__ cd_Ratio___neg__ ct_Ratio___neg__), sl_Ratio___neg__⟩)
    (c_Ratio___neg__ : PySem.W.codeIn K cd_Ratio___neg__ "Ratio.__neg__" = true)
    (k_Ratio___neg__ : PySem.W.keepIn K (.ref f_Ratio___neg__) = true)
    (a_lesser : PySem.W.nsIn K mainGlobals "lesser" = some (some (.ref f_lesser)))
    (l_lesser : K.lookup f_lesser = some ⟨oc_lesser, od_lesser, .func (PySem.W.fnOf "lesser" "lesser" (defArgs s_lesser) (defBody s_lesser) (defScope s_lesser) .none kV_lesser dc_lesser pm_lesser an_lesser cd_lesser ct_lesser), sl_lesser⟩)
    (c_lesser : PySem.W.codeIn K cd_lesser "lesser" = true)
    (k_lesser : PySem.W.keepIn K (.ref f_lesser) = true)
    (a_greater : PySem.W.nsIn K mainGlobals "greater" = some (some (.ref f_greater)))
    (l_greater : K.lookup f_greater = some ⟨oc_greater, od_greater, .func (PySem.W.fnOf "greater" "greater" (defArgs s_greater) (defBody s_greater) (defScope s_greater) .none kV_greater dc_greater pm_greater an_greater cd_greater ct_greater), sl_greater⟩)
    (c_greater : PySem.W.codeIn K cd_greater "greater" = true)
    (k_greater : PySem.W.keepIn K (.ref f_greater) = true)
    (a_Span___init__ : PySem.W.findIn K (.ref C_Span) "__init__" = some (some (.ref f_Span___init__)))
    (i_Span___init__ : PySem.W.isFn K (.ref f_Span___init__) = true)
    (l_Span___init__ : K.lookup f_Span___init__ = some ⟨oc_Span___init__, od_Span___init__, .func (PySem.W.fnOf "__init__" "Span.__init__" (defArgs s_Span___init__) (defBody s_Span___init__) (defScope s_Span___init__) .none kV_Span___init__ dc_Span___init__ pm_Span___init__ an_Span___init__ cd_Span___init__ ct_Span___init__), sl_Span___init__⟩)
    (c_Span___init__ : PySem.W.codeIn K cd_Span___init__ "Span.__init__" = true)
    (k_Span___init__ : PySem.W.keepIn K (.ref f_Span___init__) = true)
    (a_Span___add__ : PySem.W.findIn K (.ref C_Span) "__add__" = some (some (.ref f_Span___add__)))
    (i_Span___add__ : PySem.W.isFn K (.ref f_Span___add__) = true)
    (l_Span___add__ : K.lookup f_Span___add__ = some ⟨oc_Span___add__, od_Span___add__, .func (PySem.W.fnOf "__add__" "Span.__add__" (defArgs s_Span___add__) (defBody s_Span___add__) (defScope s_Span___add__) .none kV_Span___add__ dc_Span___add__ pm_Span___add__ an_Span___add__ cd_Span___add__ ct_Span___add__), sl_Span___add__⟩)
    (c_Span___add__ : PySem.W.codeIn K cd_Span___add__ "Span.__add__" = true)
    (k_Span___add__ : PySem.W.keepIn K (.ref f_Span___add__) = true)
    (a_Span___sub__ : PySem.W.findIn K (.ref C_Span) "__sub__" = some (some (.ref f_Span___sub__)))
    (i_Span___sub__ : PySem.W.isFn K (.ref f_Span___sub__) = true)
    (l_Span___sub__ : K.lookup f_Span___sub__ = some ⟨oc_Span___sub__, od_Span___sub__, .func (PySem.W.fnOf "__sub__" "Span.__sub__" (defArgs s_Span___sub__) (defBody s_Span___sub__) (defScope s_Span___sub__) .none kV_Span___sub__ dc_Span___sub__ pm_Span___sub__ an_Span___sub__ cd_Span___sub__ ct_Span___sub__), sl_Span___sub__⟩)
    (c_Span___sub__ : PySem.W.codeIn K cd_Span___sub__ "Span.__sub__" = true)
    (k_Span___sub__ : PySem.W.keepIn K (.ref f_Span___sub__) = true)
    (a_Span___mul__ : PySem.W.findIn K (.ref C_Span) "__mul__" = some (some (.ref f_Span___mul__)))
    (i_Span___mul__ : PySem.W.isFn K (.ref f_Span___mul__) = true)
    (l_Span___mul__ : K.lookup f_Span___mul__ = some ⟨oc_Span___mul__, od_Span___mul__, .func (PySem.W.fnOf "__mul__" "Span.__mul__" (defArgs s_Span___mul__) (defBody s_Span___mul__) (defScope s_Span___mul__) .none kV_Span___mul__ dc_Span___mul__ pm_Span___mul__ an_Span___mul__ cd_Span___mul__ ct_Span___mul__), sl_Span___mul__⟩)
    (c_Span___mul__ : PySem.W.codeIn K cd_Span___mul__ "Span.__mul__" = true)
    (k_Span___mul__ : PySem.W.keepIn K (.ref f_Span___mul__) = true)
    (a_Span___neg__ : PySem.W.findIn K (.ref C_Span) "__neg__" = some (some (.ref f_Span___neg__)))
    (i_Span___neg__ : PySem.W.isFn K (.ref f_Span___neg__) = true)
    (l_Span___neg__ : K.lookup f_Span___neg__ = some ⟨oc_Span___neg__, od_Span___neg__, .func (PySem.W.fnOf "__neg__" "Span.__neg__" (defArgs s_Span___neg__) (defBody s_Span___neg__) (defScope s_Span___neg__) .none kV_Span___neg__ dc_Span___neg__ pm_Span___neg__ an_Span___neg__ cd_Span___neg__ ct_Span___neg__), sl_Span___neg__⟩)
    (c_Span___neg__ : PySem.W.codeIn K cd_Span___neg__ "Span.__neg__" = true)
    (k_Span___neg__ : PySem.W.keepIn K (.ref f_Span___neg__) = true)
    (a_Span___contains__ : PySem.W.findIn K (.ref C_Span) "__contains__" = some (some (.ref f_Span___contains__)))
    (i_Span___contains__ : PySem.W.isFn K (.ref f_Span___contains__) = true)
    (l_Span___contains__ : K.lookup f_Span___contains__ = some ⟨oc_Span___contains__, od_Span___contains__, .func (PySem.W.fnOf "__contains__" "Span.__contains__" (defArgs s_Span___contains__) (defBody s_Span___contains__) (defScope s_Span___contains__) .none kV_Span___contains__ dc_Span___contains__ pm_Span___contains__ an_Span___contains__ cd_Span___contains__ ct_Span___contains__), sl_Span___contains__⟩)
    (c_Span___contains__ : PySem.W.codeIn K cd_Span___contains__ "Span.__contains__" = true)
    (k_Span___contains__ : PySem.W.keepIn K (.ref f_Span___contains__) = true)
    (a_Span_least : PySem.W.findIn K (.ref C_Span) "least" = some (some (.ref f_Span_least)))
    (i_Span_least : PySem.W.isFn K (.ref f_Span_least) = true)
    (l_Span_least : K.lookup f_Span_least = some ⟨oc_Span_least, od_Span_least, .func (PySem.W.fnOf "least" "Span.least" (defArgs s_Span_least) (defBody s_Span_least) (defScope s_Span_least) .none kV_Span_least dc_Span_least pm_Span_least an_Span_least cd_Span_least ct_Span_least), sl_Span_least⟩)
    (c_Span_least : PySem.W.codeIn K cd_Span_least "Span.least" = true)
    (k_Span_least : PySem.W.keepIn K (.ref f_Span_least) = true)
    (a_Span_greatest : PySem.W.findIn K (.ref C_Span) "greatest" = some (some (.ref f_Span_greatest)))
    (i_Span_greatest : PySem.W.isFn K (.ref f_Span_greatest) = true)
    (l_Span_greatest : K.lookup f_Span_greatest = some ⟨oc_Span_greatest, od_Span_greatest, .func (PySem.W.fnOf "greatest" "Span.greatest" (defArgs s_Span_greatest) (defBody s_Span_greatest) (defScope s_Span_greatest) .none kV_Span_greatest dc_Span_greatest pm_Span_greatest an_Span_greatest cd_Span_greatest ct_Span_greatest), sl_Span_greatest⟩)
    (c_Span_greatest : PySem.W.codeIn K cd_Span_greatest "Span.greatest" = true)
    (k_Span_greatest : PySem.W.keepIn K (.ref f_Span_greatest) = true)
    (a_Span_divided : PySem.W.findIn K (.ref C_Span) "divided" = some (some (.ref f_Span_divided)))
    (i_Span_divided : PySem.W.isFn K (.ref f_Span_divided) = true)
    (l_Span_divided : K.lookup f_Span_divided = some ⟨oc_Span_divided, od_Span_divided, .func (PySem.W.fnOf "divided" "Span.divided" (defArgs s_Span_divided) (defBody s_Span_divided) (defScope s_Span_divided) .none kV_Span_divided dc_Span_divided pm_Span_divided an_Span_divided cd_Span_divided ct_Span_divided), sl_Span_divided⟩)
    (c_Span_divided : PySem.W.codeIn K cd_Span_divided "Span.divided" = true)
    (k_Span_divided : PySem.W.keepIn K (.ref f_Span_divided) = true)
    (a__law_start : PySem.W.nsIn K mainGlobals "_law_start" = some (some (.ref f__law_start)))
    (l__law_start : K.lookup f__law_start = some ⟨oc__law_start, od__law_start, .func (PySem.W.fnOf "_law_start" "_law_start" (defArgs s__law_start) (defBody s__law_start) (defScope s__law_start) .none kV__law_start dc__law_start pm__law_start an__law_start cd__law_start ct__law_start), sl__law_start⟩)
    (c__law_start : PySem.W.codeIn K cd__law_start "_law_start" = true)
    (k__law_start : PySem.W.keepIn K (.ref f__law_start) = true)
    (a__law_digit : PySem.W.nsIn K mainGlobals "_law_digit" = some (some (.ref f__law_digit)))
    (l__law_digit : K.lookup f__law_digit = some ⟨oc__law_digit, od__law_digit, .func (PySem.W.fnOf "_law_digit" "_law_digit" (defArgs s__law_digit) (defBody s__law_digit) (defScope s__law_digit) .none kV__law_digit dc__law_digit pm__law_digit an__law_digit cd__law_digit ct__law_digit), sl__law_digit⟩)
    (c__law_digit : PySem.W.codeIn K cd__law_digit "_law_digit" = true)
    (k__law_digit : PySem.W.keepIn K (.ref f__law_digit) = true)
    (a__law_fraction : PySem.W.nsIn K mainGlobals "_law_fraction" = some (some (.ref f__law_fraction)))
    (l__law_fraction : K.lookup f__law_fraction = some ⟨oc__law_fraction, od__law_fraction, .func (PySem.W.fnOf "_law_fraction" "_law_fraction" (defArgs s__law_fraction) (defBody s__law_fraction) (defScope s__law_fraction) .none kV__law_fraction dc__law_fraction pm__law_fraction an__law_fraction cd__law_fraction ct__law_fraction), sl__law_fraction⟩)
    (c__law_fraction : PySem.W.codeIn K cd__law_fraction "_law_fraction" = true)
    (k__law_fraction : PySem.W.keepIn K (.ref f__law_fraction) = true)
    (a__law_less : PySem.W.nsIn K mainGlobals "_law_less" = some (some (.ref f__law_less)))
    (l__law_less : K.lookup f__law_less = some ⟨oc__law_less, od__law_less, .func (PySem.W.fnOf "_law_less" "_law_less" (defArgs s__law_less) (defBody s__law_less) (defScope s__law_less) .none kV__law_less dc__law_less pm__law_less an__law_less cd__law_less ct__law_less), sl__law_less⟩)
    (c__law_less : PySem.W.codeIn K cd__law_less "_law_less" = true)
    (k__law_less : PySem.W.keepIn K (.ref f__law_less) = true)
    (a__law_plus : PySem.W.nsIn K mainGlobals "_law_plus" = some (some (.ref f__law_plus)))
    (l__law_plus : K.lookup f__law_plus = some ⟨oc__law_plus, od__law_plus, .func (PySem.W.fnOf "_law_plus" "_law_plus" (defArgs s__law_plus) (defBody s__law_plus) (defScope s__law_plus) .none kV__law_plus dc__law_plus pm__law_plus an__law_plus cd__law_plus ct__law_plus), sl__law_plus⟩)
    (c__law_plus : PySem.W.codeIn K cd__law_plus "_law_plus" = true)
    (k__law_plus : PySem.W.keepIn K (.ref f__law_plus) = true)
    (a__law_ends : PySem.W.nsIn K mainGlobals "_law_ends" = some (some (.ref f__law_ends)))
    (l__law_ends : K.lookup f__law_ends = some ⟨oc__law_ends, od__law_ends, .func (PySem.W.fnOf "_law_ends" "_law_ends" (defArgs s__law_ends) (defBody s__law_ends) (defScope s__law_ends) .none kV__law_ends dc__law_ends pm__law_ends an__law_ends cd__law_ends ct__law_ends), sl__law_ends⟩)
    (c__law_ends : PySem.W.codeIn K cd__law_ends "_law_ends" = true)
    (k__law_ends : PySem.W.keepIn K (.ref f__law_ends) = true)
    (a__law_between : PySem.W.nsIn K mainGlobals "_law_between" = some (some (.ref f__law_between)))
    (l__law_between : K.lookup f__law_between = some ⟨oc__law_between, od__law_between, .func (PySem.W.fnOf "_law_between" "_law_between" (defArgs s__law_between) (defBody s__law_between) (defScope s__law_between) .none kV__law_between dc__law_between pm__law_between an__law_between cd__law_between ct__law_between), sl__law_between⟩)
    (c__law_between : PySem.W.codeIn K cd__law_between "_law_between" = true)
    (k__law_between : PySem.W.keepIn K (.ref f__law_between) = true)
    (a__law_own : PySem.W.nsIn K mainGlobals "_law_own" = some (some (.ref f__law_own)))
    (l__law_own : K.lookup f__law_own = some ⟨oc__law_own, od__law_own, .func (PySem.W.fnOf "_law_own" "_law_own" (defArgs s__law_own) (defBody s__law_own) (defScope s__law_own) .none kV__law_own dc__law_own pm__law_own an__law_own cd__law_own ct__law_own), sl__law_own⟩)
    (c__law_own : PySem.W.codeIn K cd__law_own "_law_own" = true)
    (k__law_own : PySem.W.keepIn K (.ref f__law_own) = true)
    (a__law_asked : PySem.W.nsIn K mainGlobals "_law_asked" = some (some (.ref f__law_asked)))
    (l__law_asked : K.lookup f__law_asked = some ⟨oc__law_asked, od__law_asked, .func (PySem.W.fnOf "_law_asked" "_law_asked" (defArgs s__law_asked) (defBody s__law_asked) (defScope s__law_asked) .none kV__law_asked dc__law_asked pm__law_asked an__law_asked cd__law_asked ct__law_asked), sl__law_asked⟩)
    (c__law_asked : PySem.W.codeIn K cd__law_asked "_law_asked" = true)
    (k__law_asked : PySem.W.keepIn K (.ref f__law_asked) = true)
    (a__law_equals : PySem.W.nsIn K mainGlobals "_law_equals" = some (some (.ref f__law_equals)))
    (l__law_equals : K.lookup f__law_equals = some ⟨oc__law_equals, od__law_equals, .func (PySem.W.fnOf "_law_equals" "_law_equals" (defArgs s__law_equals) (defBody s__law_equals) (defScope s__law_equals) .none kV__law_equals dc__law_equals pm__law_equals an__law_equals cd__law_equals ct__law_equals), sl__law_equals⟩)
    (c__law_equals : PySem.W.codeIn K cd__law_equals "_law_equals" = true)
    (k__law_equals : PySem.W.keepIn K (.ref f__law_equals) = true)
    (a__law_is_span : PySem.W.nsIn K mainGlobals "_law_is_span" = some (some (.ref f__law_is_span)))
    (l__law_is_span : K.lookup f__law_is_span = some ⟨oc__law_is_span, od__law_is_span, .func (PySem.W.fnOf "_law_is_span" "_law_is_span" (defArgs s__law_is_span) (defBody s__law_is_span) (defScope s__law_is_span) .none kV__law_is_span dc__law_is_span pm__law_is_span an__law_is_span cd__law_is_span ct__law_is_span), sl__law_is_span⟩)
    (c__law_is_span : PySem.W.codeIn K cd__law_is_span "_law_is_span" = true)
    (k__law_is_span : PySem.W.keepIn K (.ref f__law_is_span) = true)
    (a__law_fits : PySem.W.nsIn K mainGlobals "_law_fits" = some (some (.ref f__law_fits)))
    (l__law_fits : K.lookup f__law_fits = some ⟨oc__law_fits, od__law_fits, .func (PySem.W.fnOf "_law_fits" "_law_fits" (defArgs s__law_fits) (defBody s__law_fits) (defScope s__law_fits) .none kV__law_fits dc__law_fits pm__law_fits an__law_fits cd__law_fits ct__law_fits), sl__law_fits⟩)
    (c__law_fits : PySem.W.codeIn K cd__law_fits "_law_fits" = true)
    (k__law_fits : PySem.W.keepIn K (.ref f__law_fits) = true)
    (a__law_no_quotient : PySem.W.nsIn K mainGlobals "_law_no_quotient" = some (some (.ref f__law_no_quotient)))
    (l__law_no_quotient : K.lookup f__law_no_quotient = some ⟨oc__law_no_quotient, od__law_no_quotient, .func (PySem.W.fnOf "_law_no_quotient" "_law_no_quotient" (defArgs s__law_no_quotient) (defBody s__law_no_quotient) (defScope s__law_no_quotient) .none kV__law_no_quotient dc__law_no_quotient pm__law_no_quotient an__law_no_quotient cd__law_no_quotient ct__law_no_quotient), sl__law_no_quotient⟩)
    (c__law_no_quotient : PySem.W.codeIn K cd__law_no_quotient "_law_no_quotient" = true)
    (k__law_no_quotient : PySem.W.keepIn K (.ref f__law_no_quotient) = true)
    (a__law_all : PySem.W.nsIn K mainGlobals "_law_all" = some (some (.ref f__law_all)))
    (l__law_all : K.lookup f__law_all = some ⟨oc__law_all, od__law_all, .func (PySem.W.fnOf "_law_all" "_law_all" (defArgs s__law_all) (defBody s__law_all) (defScope s__law_all) .none kV__law_all dc__law_all pm__law_all an__law_all cd__law_all ct__law_all), sl__law_all⟩)
    (c__law_all : PySem.W.codeIn K cd__law_all "_law_all" = true)
    (k__law_all : PySem.W.keepIn K (.ref f__law_all) = true)
    (a_law : PySem.W.nsIn K mainGlobals "law" = some (some (.ref f_law)))
    (l_law : K.lookup f_law = some ⟨oc_law, od_law, .func (PySem.W.fnOf "law" "law" (defArgs s_law) (defBody s_law) (defScope s_law) .none kV_law dc_law pm_law an_law cd_law ct_law), sl_law⟩)
    (c_law : PySem.W.codeIn K cd_law "law" = true)
    (k_law : PySem.W.keepIn K (.ref f_law) = true)
    (z_abs : PySem.W.nsIn K mainGlobals "abs" = some none)
    (z_len : PySem.W.nsIn K mainGlobals "len" = some none)
    (z_int : PySem.W.nsIn K mainGlobals "int" = some none)
    (z_bool : PySem.W.nsIn K mainGlobals "bool" = some none)
    (z_range : PySem.W.nsIn K mainGlobals "range" = some none)
    (z_isinstance : PySem.W.nsIn K mainGlobals "isinstance" = some none)
    (z_ValueError : PySem.W.nsIn K mainGlobals "ValueError" = some none)
    (v_gcd : PySem.W.nsIn K mainGlobals "gcd" = some (some (.builtin "math.gcd")))
-/
open PySem PySem.W PyProof.Rows
set_option maxRecDepth 100000 in
set_option maxHeartbeats 0 in
theorem PySem.Challenge.cw_fewcarry_k05_span_arithmetic_holds : PySem.Challenge.rw_fewcarry_k05_span_arithmetic.Holds := by
  w_on; o_law; k_head; (case hw => w_witness2)
  k_fill
  refine DL.walkB (l := PySem.Challenge.rw_fewcarry_k05_span_arithmetic) (k := 8) (x := "script") rfl rfl ⟨rfl, by decide, by decide⟩ (fun w h Y => PySem.W.kIn_of Y) ?F
  case F =>
    intro w mg fa h KX G hmg
    refine' K05.all_mk KX G hmg ?a_Ratio ?pg_Ratio ?hd_Ratio ?po_Ratio ?sa_Ratio ?mk_Ratio ?sf_Ratio ?kc_Ratio ?ha_Ratio ?mo_Ratio ?no_top_Ratio ?no_bottom_Ratio ?a_Span ?pg_Span ?hd_Span ?po_Span ?sa_Span ?mk_Span ?sf_Span ?kc_Span ?ha_Span ?mo_Span ?no_low_Span ?no_high_Span ?a_ZeroBottom ?xi_ZeroBottom ?ex_ZeroBottom ?ty_ZeroBottom ?kc_ZeroBottom ?ga_ZeroBottom ?gg_ZeroBottom ?hd_ZeroBottom ?ha_ZeroBottom ?mo_ZeroBottom ?is_ZeroBottom ?su_ZeroBottom ?a_Apart ?ex_Apart ?ty_Apart ?hd_Apart ?is_Apart ?a_CarryError ?ex_CarryError ?ty_CarryError ?hd_CarryError ?is_CarryError ?su_ZeroBottom_Apart ?su_ZeroBottom_CarryError ?sT_ZeroBottom_ValueError ?gs ?gt ?a_Ratio___init__ ?i_Ratio___init__ ?l_Ratio___init__ ?lT_Ratio___init__ ?c_Ratio___init__ ?k_Ratio___init__ ?a_Ratio_compare ?i_Ratio_compare ?l_Ratio_compare ?c_Ratio_compare ?k_Ratio_compare ?a_Ratio_sign ?i_Ratio_sign ?l_Ratio_sign ?c_Ratio_sign ?k_Ratio_sign ?a_Ratio_divided ?i_Ratio_divided ?l_Ratio_divided ?c_Ratio_divided ?k_Ratio_divided ?a_Ratio___add__ ?i_Ratio___add__ ?l_Ratio___add__ ?c_Ratio___add__ ?k_Ratio___add__ ?a_Ratio___sub__ ?i_Ratio___sub__ ?l_Ratio___sub__ ?c_Ratio___sub__ ?k_Ratio___sub__ ?a_Ratio___mul__ ?i_Ratio___mul__ ?l_Ratio___mul__ ?c_Ratio___mul__ ?k_Ratio___mul__ ?a_Ratio___neg__ ?i_Ratio___neg__ ?l_Ratio___neg__ ?c_Ratio___neg__ ?k_Ratio___neg__ ?a_lesser ?l_lesser ?c_lesser ?k_lesser ?a_greater ?l_greater ?c_greater ?k_greater ?a_Span___init__ ?i_Span___init__ ?l_Span___init__ ?c_Span___init__ ?k_Span___init__ ?a_Span___add__ ?i_Span___add__ ?l_Span___add__ ?c_Span___add__ ?k_Span___add__ ?a_Span___sub__ ?i_Span___sub__ ?l_Span___sub__ ?c_Span___sub__ ?k_Span___sub__ ?a_Span___mul__ ?i_Span___mul__ ?l_Span___mul__ ?c_Span___mul__ ?k_Span___mul__ ?a_Span___neg__ ?i_Span___neg__ ?l_Span___neg__ ?c_Span___neg__ ?k_Span___neg__ ?a_Span___contains__ ?i_Span___contains__ ?l_Span___contains__ ?c_Span___contains__ ?k_Span___contains__ ?a_Span_least ?i_Span_least ?l_Span_least ?c_Span_least ?k_Span_least ?a_Span_greatest ?i_Span_greatest ?l_Span_greatest ?c_Span_greatest ?k_Span_greatest ?a_Span_divided ?i_Span_divided ?l_Span_divided ?c_Span_divided ?k_Span_divided ?a__law_start ?l__law_start ?c__law_start ?k__law_start ?a__law_digit ?l__law_digit ?c__law_digit ?k__law_digit ?a__law_fraction ?l__law_fraction ?c__law_fraction ?k__law_fraction ?a__law_less ?l__law_less ?c__law_less ?k__law_less ?a__law_plus ?l__law_plus ?c__law_plus ?k__law_plus ?a__law_ends ?l__law_ends ?c__law_ends ?k__law_ends ?a__law_between ?l__law_between ?c__law_between ?k__law_between ?a__law_own ?l__law_own ?c__law_own ?k__law_own ?a__law_asked ?l__law_asked ?c__law_asked ?k__law_asked ?a__law_equals ?l__law_equals ?c__law_equals ?k__law_equals ?a__law_is_span ?l__law_is_span ?c__law_is_span ?k__law_is_span ?a__law_fits ?l__law_fits ?c__law_fits ?k__law_fits ?a__law_no_quotient ?l__law_no_quotient ?c__law_no_quotient ?k__law_no_quotient ?a__law_all ?l__law_all ?c__law_all ?k__law_all ?a_law ?l_law ?c_law ?k_law ?z_abs ?z_len ?z_int ?z_bool ?z_range ?z_isinstance ?z_ValueError ?v_gcd
    (case a_Ratio => k_is)
    (case pg_Ratio => k_is)
    (case hd_Ratio => k_is)
    (case po_Ratio => k_is)
    (case sa_Ratio => k_is)
    (case mk_Ratio => k_is)
    (case sf_Ratio => k_is)
    (case kc_Ratio => k_is)
    (case ha_Ratio => k_is)
    (case mo_Ratio => k_is)
    (case no_top_Ratio => k_is)
    (case no_bottom_Ratio => k_is)
    (case a_Span => k_is)
    (case pg_Span => k_is)
    (case hd_Span => k_is)
    (case po_Span => k_is)
    (case sa_Span => k_is)
    (case mk_Span => k_is)
    (case sf_Span => k_is)
    (case kc_Span => k_is)
    (case ha_Span => k_is)
    (case mo_Span => k_is)
    (case no_low_Span => k_is)
    (case no_high_Span => k_is)
    (case a_ZeroBottom => k_is)
    (case xi_ZeroBottom => k_exc)
    (case ex_ZeroBottom => k_is)
    (case ty_ZeroBottom => k_is)
    (case kc_ZeroBottom => k_is)
    (case ga_ZeroBottom => k_is)
    (case gg_ZeroBottom => k_is)
    (case hd_ZeroBottom => k_is)
    (case ha_ZeroBottom => k_is)
    (case mo_ZeroBottom => k_is)
    (case is_ZeroBottom => k_is)
    (case su_ZeroBottom => k_is)
    (case a_Apart => k_is)
    (case ex_Apart => k_is)
    (case ty_Apart => k_is)
    (case hd_Apart => k_is)
    (case is_Apart => k_is)
    (case a_CarryError => k_is)
    (case ex_CarryError => k_is)
    (case ty_CarryError => k_is)
    (case hd_CarryError => k_is)
    (case is_CarryError => k_is)
    (case su_ZeroBottom_Apart => k_is)
    (case su_ZeroBottom_CarryError => k_is)
    (case sT_ZeroBottom_ValueError => k_is)
    (case gs => k_is)
    (case gt => k_is)
    (case a_Ratio___init__ => k_is)
    (case i_Ratio___init__ => k_is)
    (case l_Ratio___init__ => k_is)
    (case lT_Ratio___init__ => k_is)
    (case c_Ratio___init__ => k_is)
    (case k_Ratio___init__ => k_is)
    (case a_Ratio_compare => k_is)
    (case i_Ratio_compare => k_is)
    (case l_Ratio_compare => k_is)
    (case c_Ratio_compare => k_is)
    (case k_Ratio_compare => k_is)
    (case a_Ratio_sign => k_is)
    (case i_Ratio_sign => k_is)
    (case l_Ratio_sign => k_is)
    (case c_Ratio_sign => k_is)
    (case k_Ratio_sign => k_is)
    (case a_Ratio_divided => k_is)
    (case i_Ratio_divided => k_is)
    (case l_Ratio_divided => k_is)
    (case c_Ratio_divided => k_is)
    (case k_Ratio_divided => k_is)
    (case a_Ratio___add__ => k_is)
    (case i_Ratio___add__ => k_is)
    (case l_Ratio___add__ => k_is)
    (case c_Ratio___add__ => k_is)
    (case k_Ratio___add__ => k_is)
    (case a_Ratio___sub__ => k_is)
    (case i_Ratio___sub__ => k_is)
    (case l_Ratio___sub__ => k_is)
    (case c_Ratio___sub__ => k_is)
    (case k_Ratio___sub__ => k_is)
    (case a_Ratio___mul__ => k_is)
    (case i_Ratio___mul__ => k_is)
    (case l_Ratio___mul__ => k_is)
    (case c_Ratio___mul__ => k_is)
    (case k_Ratio___mul__ => k_is)
    (case a_Ratio___neg__ => k_is)
    (case i_Ratio___neg__ => k_is)
    (case l_Ratio___neg__ => k_is)
    (case c_Ratio___neg__ => k_is)
    (case k_Ratio___neg__ => k_is)
    (case a_lesser => k_is)
    (case l_lesser => k_is)
    (case c_lesser => k_is)
    (case k_lesser => k_is)
    (case a_greater => k_is)
    (case l_greater => k_is)
    (case c_greater => k_is)
    (case k_greater => k_is)
    (case a_Span___init__ => k_is)
    (case i_Span___init__ => k_is)
    (case l_Span___init__ => k_is)
    (case c_Span___init__ => k_is)
    (case k_Span___init__ => k_is)
    (case a_Span___add__ => k_is)
    (case i_Span___add__ => k_is)
    (case l_Span___add__ => k_is)
    (case c_Span___add__ => k_is)
    (case k_Span___add__ => k_is)
    (case a_Span___sub__ => k_is)
    (case i_Span___sub__ => k_is)
    (case l_Span___sub__ => k_is)
    (case c_Span___sub__ => k_is)
    (case k_Span___sub__ => k_is)
    (case a_Span___mul__ => k_is)
    (case i_Span___mul__ => k_is)
    (case l_Span___mul__ => k_is)
    (case c_Span___mul__ => k_is)
    (case k_Span___mul__ => k_is)
    (case a_Span___neg__ => k_is)
    (case i_Span___neg__ => k_is)
    (case l_Span___neg__ => k_is)
    (case c_Span___neg__ => k_is)
    (case k_Span___neg__ => k_is)
    (case a_Span___contains__ => k_is)
    (case i_Span___contains__ => k_is)
    (case l_Span___contains__ => k_is)
    (case c_Span___contains__ => k_is)
    (case k_Span___contains__ => k_is)
    (case a_Span_least => k_is)
    (case i_Span_least => k_is)
    (case l_Span_least => k_is)
    (case c_Span_least => k_is)
    (case k_Span_least => k_is)
    (case a_Span_greatest => k_is)
    (case i_Span_greatest => k_is)
    (case l_Span_greatest => k_is)
    (case c_Span_greatest => k_is)
    (case k_Span_greatest => k_is)
    (case a_Span_divided => k_is)
    (case i_Span_divided => k_is)
    (case l_Span_divided => k_is)
    (case c_Span_divided => k_is)
    (case k_Span_divided => k_is)
    (case a__law_start => k_is)
    (case l__law_start => k_is)
    (case c__law_start => k_is)
    (case k__law_start => k_is)
    (case a__law_digit => k_is)
    (case l__law_digit => k_is)
    (case c__law_digit => k_is)
    (case k__law_digit => k_is)
    (case a__law_fraction => k_is)
    (case l__law_fraction => k_is)
    (case c__law_fraction => k_is)
    (case k__law_fraction => k_is)
    (case a__law_less => k_is)
    (case l__law_less => k_is)
    (case c__law_less => k_is)
    (case k__law_less => k_is)
    (case a__law_plus => k_is)
    (case l__law_plus => k_is)
    (case c__law_plus => k_is)
    (case k__law_plus => k_is)
    (case a__law_ends => k_is)
    (case l__law_ends => k_is)
    (case c__law_ends => k_is)
    (case k__law_ends => k_is)
    (case a__law_between => k_is)
    (case l__law_between => k_is)
    (case c__law_between => k_is)
    (case k__law_between => k_is)
    (case a__law_own => k_is)
    (case l__law_own => k_is)
    (case c__law_own => k_is)
    (case k__law_own => k_is)
    (case a__law_asked => k_is)
    (case l__law_asked => k_is)
    (case c__law_asked => k_is)
    (case k__law_asked => k_is)
    (case a__law_equals => k_is)
    (case l__law_equals => k_is)
    (case c__law_equals => k_is)
    (case k__law_equals => k_is)
    (case a__law_is_span => k_is)
    (case l__law_is_span => k_is)
    (case c__law_is_span => k_is)
    (case k__law_is_span => k_is)
    (case a__law_fits => k_is)
    (case l__law_fits => k_is)
    (case c__law_fits => k_is)
    (case k__law_fits => k_is)
    (case a__law_no_quotient => k_is)
    (case l__law_no_quotient => k_is)
    (case c__law_no_quotient => k_is)
    (case k__law_no_quotient => k_is)
    (case a__law_all => k_is)
    (case l__law_all => k_is)
    (case c__law_all => k_is)
    (case k__law_all => k_is)
    (case a_law => k_is)
    (case l_law => k_is)
    (case c_law => k_is)
    (case k_law => k_is)
    (case z_abs => k_is)
    (case z_len => k_is)
    (case z_int => k_is)
    (case z_bool => k_is)
    (case z_range => k_is)
    (case z_isinstance => k_is)
    (case z_ValueError => k_is)
    (case v_gcd => k_is)
