import PyProof.Rows.All
import Wide.All
import OpenK.AllK
import Wide.FinOn
import HandS.ForMost
import HandS.ForExc
import HandS.ExcInit
import HandS.CallSlots
import HandS.Wide
import HandS.Style
import HandS.IsInst
import HandS.Comp
import HandS.Gcd
import HandS.ExcCtx
import HandS.HotCalls
import HandS.Defaults
import HandS.ExcField
import HandS.EndBits
import KE.KExcIs
import HandS.ExcIs
import HandS.OwnEq
import PyProof.P3Eq
import HandS.ClsMeth
import PyProof.FitsInt
import PySem.Challenge.RW_fewcarry_k06_span_order
set_option Elab.async false
set_option linter.all false
set_option maxRecDepth 100000
/-! DL1: values as trees (D), what lies mutable (Mu), and what a reading of the hand layer does to them. -/
namespace DL
open PySem PySem.Spec L2
open PyProof.Rows hiding St

inductive D where
  | non | bl (b : Bool) | int (i : Int) | str (x : Str) | ty (n : String) | ref (a : Addr)
  | tup (xs : List D) | lst (xs : List D) | dic (kvs : List (Key × D)) | ins (C : Addr) (ns : List Str) (ds : List D)
  /-- a caught exception: where it stands, its own dict, its class, its fields -/
  | exc (a : Addr) (dd : Option Addr) (C : Addr) (ns : List Str) (ds : List D)

/-- a mutable object that stands at an address -/
inductive MO where
  | lst (xs : List D) | dic (kvs : List (Key × D)) | ins (C : Addr) (ns : List Str) (ds : List D)
abbrev Mu := List (Addr × MO)
def dom (m : Mu) (a : Addr) : Prop := a ∈ m.map (·.1)
theorem dom_nil {a : Addr} : ¬ dom [] a := fun h => by simp [dom] at h
theorem dom_cons {m : Mu} {p : Addr × MO} {a : Addr} : dom (p :: m) a ↔ a = p.1 ∨ dom m a := by simp [dom]

mutual
inductive Rep (M : Addr → Prop) (H : Hp) : D → V → Prop
  | non : Rep M H .non .non
  | bl (b : Bool) : Rep M H (.bl b) (.bl b)
  | int (i : Int) : Rep M H (.int i) (.int i)
  | str (x : Str) : Rep M H (.str x) (.str x)
  | ty (n : String) : Rep M H (.ty n) (.ty n)
  | ref (a : Addr) : Rep M H (.ref a) (.ref a)
  | tup {a : Addr} {xs : List D} {vs : List V} (m : ¬ M a) (h : Rd H a (.tup vs)) (r : Reps M H xs vs) : Rep M H (.tup xs) (.ref a)
  | lst {a : Addr} {xs : List D} {vs : List V} (m : ¬ M a) (h : Rd H a (.lst vs)) (r : Reps M H xs vs) : Rep M H (.lst xs) (.ref a)
  | dic {a : Addr} {kvs : List (Key × D)} {kws : List (Key × V)} (m : ¬ M a) (h : H a = some (.dK kws)) (r : RepK M H kvs kws) : Rep M H (.dic kvs) (.ref a)
  | ins {a C dx : Addr} {ns : List Str} {ds : List D} {gs : List (Str × V)} (m : ¬ M a) (h : H a = some (.ins C dx gs)) (r : RepF M H ns ds gs) : Rep M H (.ins C ns ds) (.ref a)
  | excN {a C : Addr} : Rep M H (.exc a none C [] []) (.ref a)
  | excS {a d C : Addr} {ns : List Str} {ds : List D} {gs : List (Str × V)} (m : ¬ M d) (h : H d = some (.xd gs)) (r : RepF M H ns ds gs) : Rep M H (.exc a (some d) C ns ds) (.ref a)
inductive Reps (M : Addr → Prop) (H : Hp) : List D → List V → Prop
  | nil : Reps M H [] []
  | cons {d : D} {v : V} {ds : List D} {vs : List V} (r : Rep M H d v) (t : Reps M H ds vs) : Reps M H (d :: ds) (v :: vs)
inductive RepK (M : Addr → Prop) (H : Hp) : List (Key × D) → List (Key × V) → Prop
  | nil : RepK M H [] []
  | cons {k : Key} {d : D} {v : V} {ds : List (Key × D)} {vs : List (Key × V)} (r : Rep M H d v) (t : RepK M H ds vs) : RepK M H ((k, d) :: ds) ((k, v) :: vs)
inductive RepF (M : Addr → Prop) (H : Hp) : List Str → List D → List (Str × V) → Prop
  | nil : RepF M H [] [] []
  | cons {n : Str} {d : D} {v : V} {ns : List Str} {ds : List D} {vs : List (Str × V)} (r : Rep M H d v) (t : RepF M H ns ds vs) : RepF M H (n :: ns) (d :: ds) ((n, v) :: vs)
end

/-- from M, H to M', H': what was fixed is fixed and as it was -/
def Stp (M : Addr → Prop) (H : Hp) (M' : Addr → Prop) (H' : Hp) : Prop := ∀ a o, H a = some o → ¬ M a → H' a = some o ∧ ¬ M' a
theorem Stp.refl (M : Addr → Prop) (H : Hp) : Stp M H M H := fun _ _ h m => ⟨h, m⟩
theorem Stp.trans {M M1 M2 : Addr → Prop} {H H1 H2 : Hp} (a : Stp M H M1 H1) (b : Stp M1 H1 M2 H2) : Stp M H M2 H2 := fun x o h m => b x o (a x o h m).1 (a x o h m).2
theorem Stp.rd {M M' : Addr → Prop} {H H' : Hp} (s : Stp M H M' H') {a : Addr} {u : HO} (m : ¬ M a) (h : Rd H a u) : Rd H' a u ∧ ¬ M' a := by
  rcases h with h | ⟨o, h⟩
  · exact ⟨.inl (s a _ h m).1, (s a _ h m).2⟩
  · exact ⟨.inr ⟨o, (s a _ h m).1⟩, (s a _ h m).2⟩
/-- a new object is laid (fixed) -/
theorem Stp.new {M : Addr → Prop} {H : Hp} {p : Addr} {o : HO} (n : H p = none) : Stp M H M (upd H p o) := fun a u h m => ⟨by rw [upd_ne (ne_of_none h n)]; exact h, m⟩
/-- .. mutable -/
theorem Stp.newM {m : Mu} {H : Hp} {p : Addr} {o : HO} {x : MO} (n : H p = none) : Stp (dom m) H (dom ((p, x) :: m)) (upd H p o) := fun a u h k =>
  ⟨by rw [upd_ne (ne_of_none h n)]; exact h, fun z => (dom_cons.mp z).elim (ne_of_none h n) k⟩
/-- a mutable one is written -/
theorem Stp.wr {m m' : Mu} {H : Hp} {p : Addr} {o : HO} (hp : dom m p) (hd : ∀ a, dom m' a → dom m a) : Stp (dom m) H (dom m') (upd H p o) := fun a u h k =>
  ⟨by rw [upd_ne (fun e => k (by rw [e]; exact hp))]; exact h, fun z => k (hd a z)⟩
theorem Stp.less {M M' : Addr → Prop} {H : Hp} (h : ∀ a, M' a → M a) : Stp M H M' H := fun a _ e m => ⟨e, fun z => m (h a z)⟩

mutual
theorem Rep.mono {M M' : Addr → Prop} {H H' : Hp} (s : Stp M H M' H') : ∀ {d : D} {v : V}, Rep M H d v → Rep M' H' d v
  | _, _, .non => .non
  | _, _, .bl b => .bl b
  | _, _, .int i => .int i
  | _, _, .str x => .str x
  | _, _, .ty n => .ty n
  | _, _, .ref a => .ref a
  | _, _, .tup m h r => .tup (s.rd m h).2 (s.rd m h).1 (Reps.mono s r)
  | _, _, .lst m h r => .lst (s.rd m h).2 (s.rd m h).1 (Reps.mono s r)
  | _, _, .dic m h r => .dic (s _ _ h m).2 (s _ _ h m).1 (RepK.mono s r)
  | _, _, .ins m h r => .ins (s _ _ h m).2 (s _ _ h m).1 (RepF.mono s r)
  | _, _, .excN => .excN
  | _, _, .excS m h r => .excS (s _ _ h m).2 (s _ _ h m).1 (RepF.mono s r)
theorem Reps.mono {M M' : Addr → Prop} {H H' : Hp} (s : Stp M H M' H') : ∀ {d : List D} {v : List V}, Reps M H d v → Reps M' H' d v
  | _, _, .nil => .nil
  | _, _, .cons r t => .cons (Rep.mono s r) (Reps.mono s t)
theorem RepK.mono {M M' : Addr → Prop} {H H' : Hp} (s : Stp M H M' H') : ∀ {d : List (Key × D)} {v : List (Key × V)}, RepK M H d v → RepK M' H' d v
  | _, _, .nil => .nil
  | _, _, .cons r t => .cons (Rep.mono s r) (RepK.mono s t)
theorem RepF.mono {M M' : Addr → Prop} {H H' : Hp} (s : Stp M H M' H') : ∀ {n : List Str} {d : List D} {v : List (Str × V)}, RepF M H n d v → RepF M' H' n d v
  | _, _, _, .nil => .nil
  | _, _, _, .cons r t => .cons (Rep.mono s r) (RepF.mono s t)
end

theorem Reps.length {M : Addr → Prop} {H : Hp} : ∀ {d : List D} {v : List V}, Reps M H d v → d.length = v.length
  | _, _, .nil => rfl
  | _, _, .cons _ t => congrArg (· + 1) (Reps.length t)
theorem Reps.get {M : Addr → Prop} {H : Hp} : ∀ {d : List D} {v : List V} {i : Nat} {x : D}, Reps M H d v → d[i]? = some x → ∃ y, v[i]? = some y ∧ Rep M H x y
  | _, _, _, _, .nil, e => by simp at e
  | _, _, 0, _, .cons r _, e => by simp at e; subst e; exact ⟨_, rfl, r⟩
  | _, _, i + 1, x, .cons _ t, e => by
    obtain ⟨y, h1, h2⟩ := Reps.get (i := i) (x := x) t (by simpa using e)
    exact ⟨y, by simpa using h1, h2⟩
theorem Reps.getV {M : Addr → Prop} {H : Hp} : ∀ {d : List D} {v : List V} {i : Nat} {y : V}, Reps M H d v → v[i]? = some y → ∃ x, d[i]? = some x ∧ Rep M H x y
  | _, _, _, _, .nil, e => by simp at e
  | _, _, 0, _, .cons r _, e => by simp at e; subst e; exact ⟨_, rfl, r⟩
  | _, _, i + 1, y, .cons _ t, e => by
    obtain ⟨x, h1, h2⟩ := Reps.getV (i := i) (y := y) t (by simpa using e)
    exact ⟨x, by simpa using h1, h2⟩
theorem Reps.append {M : Addr → Prop} {H : Hp} : ∀ {d d' : List D} {v v' : List V}, Reps M H d v → Reps M H d' v' → Reps M H (d ++ d') (v ++ v')
  | _, _, _, _, .nil, h => h
  | _, _, _, _, .cons r t, h => .cons r (Reps.append t h)
theorem Reps.set {M : Addr → Prop} {H : Hp} {x : D} {y : V} (q : Rep M H x y) : ∀ {d : List D} {v : List V} (i : Nat), Reps M H d v → Reps M H (d.set i x) (v.set i y)
  | _, _, _, .nil => .nil
  | _, _, 0, .cons _ t => .cons q t
  | _, _, i + 1, .cons r t => .cons r (Reps.set q i t)
theorem Reps.drop {M : Addr → Prop} {H : Hp} : ∀ {d : List D} {v : List V} (n : Nat), Reps M H d v → Reps M H (d.drop n) (v.drop n)
  | _, _, 0, h => h
  | _, _, _ + 1, .nil => .nil
  | _, _, n + 1, .cons _ t => Reps.drop n t
theorem Reps.take {M : Addr → Prop} {H : Hp} : ∀ {d : List D} {v : List V} (n : Nat), Reps M H d v → Reps M H (d.take n) (v.take n)
  | _, _, 0, _ => .nil
  | _, _, _ + 1, .nil => .nil
  | _, _, n + 1, .cons r t => .cons r (Reps.take n t)
theorem Reps.ints {M : Addr → Prop} {H : Hp} : ∀ (l : List Int), Reps M H (l.map D.int) (l.map V.int)
  | [] => .nil
  | i :: l => .cons (.int i) (Reps.ints l)
theorem RepF.names {M : Addr → Prop} {H : Hp} : ∀ {n : List Str} {d : List D} {v : List (Str × V)}, RepF M H n d v → v.map (·.1) = n
  | _, _, _, .nil => rfl
  | _, _, _, .cons _ t => congrArg (_ :: ·) (RepF.names t)
/-- the place of a field -/
def fix (f : Str) : List Str → List D → Option D
  | n :: ns, d :: ds => if f = n then some d else fix f ns ds
  | _, _ => none
theorem RepF.look {M : Addr → Prop} {H : Hp} {f : Str} {x : D} : ∀ {n : List Str} {d : List D} {v : List (Str × V)}, RepF M H n d v → fix f n d = some x → ∃ y, v.lookup f = some y ∧ Rep M H x y
  | _, _, _, .nil, e => by simp [fix] at e
  | n :: ns, d :: ds, (_, v) :: vs, .cons r t, e => by
    unfold fix at e
    rw [lookup_put]
    by_cases h : f = n
    · rw [if_pos h] at e ⊢
      cases e
      exact ⟨v, rfl, r⟩
    · rw [if_neg h] at e ⊢
      exact RepF.look t e
theorem lookup_none {f : Str} : ∀ {v : List (Str × V)}, f ∉ v.map (·.1) → v.lookup f = none
  | [], _ => rfl
  | (n, v) :: vs, h => by
    rw [lookup_put, if_neg (fun e => h (by simp [e]))]
    exact lookup_none (fun z => h (by simp [z]))
theorem RepF.no {M : Addr → Prop} {H : Hp} {f : Str} {n : List Str} {d : List D} {v : List (Str × V)} (r : RepF M H n d v) (h : n.contains f = false) : v.lookup f = none :=
  lookup_none fun z => by
    rw [r.names] at z
    rw [List.contains_iff_mem.mpr z] at h
    cases h

/-! ### the mutable part -/
inductive MRep (M : Addr → Prop) (H : Hp) (a : Addr) : MO → Prop
  | lst {xs : List D} {vs : List V} (h : H a = some (.lst vs)) (r : Reps M H xs vs) : MRep M H a (.lst xs)
  | dic {kvs : List (Key × D)} {kws : List (Key × V)} (h : H a = some (.dK kws)) (r : RepK M H kvs kws) : MRep M H a (.dic kvs)
  | ins {C dx : Addr} {ns : List Str} {ds : List D} {gs : List (Str × V)} (h : H a = some (.ins C dx gs)) (r : RepF M H ns ds gs) : MRep M H a (.ins C ns ds)
structure MutR (m : Mu) (H : Hp) : Prop where
  nd : (m.map (·.1)).Nodup
  at_ : ∀ p ∈ m, MRep (dom m) H p.1 p.2
theorem MRep.there {M : Addr → Prop} {H : Hp} {a : Addr} {o : MO} (r : MRep M H a o) : ∃ u, H a = some u := by
  cases r with
  | lst h _ => exact ⟨_, h⟩
  | dic h _ => exact ⟨_, h⟩
  | ins h _ => exact ⟨_, h⟩
theorem MRep.mono {M M' : Addr → Prop} {H H' : Hp} {a : Addr} {o : MO} (s : Stp M H M' H') (k : ∀ u, H a = some u → H' a = some u) (r : MRep M H a o) : MRep M' H' a o := by
  cases r with
  | lst h r => exact .lst (k _ h) (r.mono s)
  | dic h r => exact .dic (k _ h) (r.mono s)
  | ins h r => exact .ins (k _ h) (r.mono s)
theorem MutR.nil (H : Hp) : MutR [] H := ⟨List.nodup_nil, fun _ h => by cases h⟩
theorem MutR.there {m : Mu} {H : Hp} (r : MutR m H) {a : Addr} (h : dom m a) : ∃ u, H a = some u := by
  obtain ⟨p, hp, e⟩ := List.mem_map.mp h
  subst e
  exact (r.at_ p hp).there
/-- a new fixed object -/
theorem MutR.new {m : Mu} {H : Hp} {p : Addr} {o : HO} (r : MutR m H) (n : H p = none) : MutR m (upd H p o) :=
  ⟨r.nd, fun q hq => (r.at_ q hq).mono (Stp.new n) fun u e => by rw [upd_ne (ne_of_none e n)]; exact e⟩
/-- a new mutable object -/
theorem MutR.newM {m : Mu} {H : Hp} {p : Addr} {o : HO} {x : MO} (r : MutR m H) (n : H p = none) (h : MRep (dom ((p, x) :: m)) (upd H p o) p x) : MutR ((p, x) :: m) (upd H p o) := by
  refine ⟨List.nodup_cons.mpr ⟨fun z => ?_, r.nd⟩, fun q hq => ?_⟩
  · obtain ⟨u, e⟩ := r.there (a := p) z
    rw [n] at e
    cases e
  · rcases List.mem_cons.mp hq with e | hq
    · subst e; exact h
    · exact (r.at_ q hq).mono (Stp.newM n) fun u e => by rw [upd_ne (ne_of_none e n)]; exact e
inductive At : Mu → Addr → MO → Prop
  | head {m : Mu} {p : Addr} {o : MO} : At ((p, o) :: m) p o
  | tail {m : Mu} {p : Addr} {o : MO} {q : Addr × MO} (h : At m p o) : At (q :: m) p o
inductive Put : Mu → Addr → MO → Mu → Prop
  | head {m : Mu} {p : Addr} {o u : MO} : Put ((p, o) :: m) p u ((p, u) :: m)
  | tail {m m' : Mu} {p : Addr} {u : MO} {q : Addr × MO} (h : Put m p u m') : Put (q :: m) p u (q :: m')
theorem At.mem {m : Mu} {p : Addr} {o : MO} (h : At m p o) : (p, o) ∈ m := by
  induction h with
  | head => exact List.mem_cons_self ..
  | tail _ ih => exact List.mem_cons_of_mem _ ih
theorem At.dom {m : Mu} {p : Addr} {o : MO} (h : At m p o) : dom m p := List.mem_map.mpr ⟨_, h.mem, rfl⟩
theorem At.rep {m : Mu} {p : Addr} {o : MO} {H : Hp} (h : At m p o) (r : MutR m H) : MRep (DL.dom m) H p o := r.at_ _ h.mem
theorem Put.keys {m m' : Mu} {p : Addr} {u : MO} (h : Put m p u m') : m'.map (·.1) = m.map (·.1) := by
  induction h with
  | head => rfl
  | tail _ ih => simp [ih]
theorem Put.dom {m m' : Mu} {p : Addr} {u : MO} (h : Put m p u m') : dom m' = dom m := by
  funext a
  unfold DL.dom
  rw [h.keys]
theorem Put.has {m m' : Mu} {p : Addr} {u : MO} (h : Put m p u m') : DL.dom m p := by
  induction h with
  | head => exact dom_cons.mpr (.inl rfl)
  | tail _ ih => exact dom_cons.mpr (.inr ih)
theorem Put.mem {m m' : Mu} {p : Addr} {u : MO} (h : Put m p u m') (nd : (m.map (·.1)).Nodup) : ∀ q ∈ m', (q = (p, u)) ∨ (q ∈ m ∧ q.1 ≠ p) := by
  induction h with
  | head =>
    intro q hq
    rcases List.mem_cons.mp hq with e | hq
    · exact .inl e
    · refine .inr ⟨List.mem_cons_of_mem _ hq, fun e => ?_⟩
      exact (List.nodup_cons.mp nd).1 (List.mem_map.mpr ⟨q, hq, e⟩)
  | tail h ih =>
    intro q hq
    rcases List.mem_cons.mp hq with e | hq
    · subst e
      refine .inr ⟨List.mem_cons_self .., fun e => ?_⟩
      have z := h.has
      rw [← e] at z
      exact (List.nodup_cons.mp nd).1 z
    · rcases ih (List.nodup_cons.mp nd).2 q hq with e | ⟨a, b⟩
      · exact .inl e
      · exact .inr ⟨List.mem_cons_of_mem _ a, b⟩
/-- a mutable object is written -/
theorem Put.stp {m m' : Mu} {p : Addr} {u : MO} {H : Hp} {o : HO} (h : Put m p u m') : Stp (DL.dom m) H (DL.dom m') (upd H p o) := Stp.wr h.has (fun a z => by rw [h.dom] at z; exact z)
theorem Put.mut {m m' : Mu} {p : Addr} {u : MO} {H : Hp} {o : HO} (h : Put m p u m') (r : MutR m H) (n : MRep (DL.dom m') (upd H p o) p u) : MutR m' (upd H p o) := by
  refine ⟨by rw [h.keys]; exact r.nd, fun q hq => ?_⟩
  rcases h.mem r.nd q hq with e | ⟨a, b⟩
  · subst e; exact n
  · exact (r.at_ q a).mono h.stp fun v e => by rw [upd_ne b]; exact e
/-- the newest mutable object is let go (it stays as it is) -/
theorem MutR.drop {m : Mu} {p : Addr × MO} {H : Hp} (r : MutR (p :: m) H) : MutR m H :=
  ⟨(List.nodup_cons.mp r.nd).2, fun q hq => (r.at_ q (List.mem_cons_of_mem _ hq)).mono (Stp.less fun a z => dom_cons.mpr (.inr z)) fun _ e => e⟩
theorem MutR.notin {m : Mu} {p : Addr × MO} {H : Hp} (r : MutR (p :: m) H) : ¬ dom m p.1 := (List.nodup_cons.mp r.nd).1

/-! ### frames -/
abbrev Rho := List (Option D)
inductive RO (M : Addr → Prop) (H : Hp) : Option D → Option V → Prop
  | none (v : Option V) : RO M H none v
  | some {d : D} {v : V} (r : Rep M H d v) : RO M H (some d) (some v)
inductive ROs (M : Addr → Prop) (H : Hp) : Rho → St → Prop
  | nil : ROs M H [] []
  | cons {d : Option D} {v : Option V} {ds : Rho} {vs : St} (r : RO M H d v) (t : ROs M H ds vs) : ROs M H (d :: ds) (v :: vs)
theorem RO.mono {M M' : Addr → Prop} {H H' : Hp} (s : Stp M H M' H') {d : Option D} {v : Option V} : RO M H d v → RO M' H' d v
  | .none v => .none v
  | .some r => .some (r.mono s)
theorem ROs.mono {M M' : Addr → Prop} {H H' : Hp} (s : Stp M H M' H') : ∀ {d : Rho} {v : St}, ROs M H d v → ROs M' H' d v
  | _, _, .nil => .nil
  | _, _, .cons r t => .cons (r.mono s) (ROs.mono s t)
theorem ROs.get {M : Addr → Prop} {H : Hp} : ∀ {d : Rho} {v : St} {i : Nat} {x : D}, ROs M H d v → d[i]? = some (some x) → ∃ y, v[i]? = some (some y) ∧ Rep M H x y
  | _, _, _, _, .nil, e => by simp at e
  | _, _, 0, _, .cons r _, e => by
    simp at e
    subst e
    cases r with
    | some r => exact ⟨_, rfl, r⟩
  | _, _, i + 1, x, .cons _ t, e => by
    obtain ⟨y, h1, h2⟩ := ROs.get (i := i) (x := x) t (by simpa using e)
    exact ⟨y, by simpa using h1, h2⟩
theorem ROs.set {M : Addr → Prop} {H : Hp} {x : Option D} {y : Option V} (q : RO M H x y) : ∀ {d : Rho} {v : St} (i : Nat), ROs M H d v → ROs M H (d.set i x) (v.set i y)
  | _, _, _, .nil => .nil
  | _, _, 0, .cons _ t => .cons q t
  | _, _, i + 1, .cons r t => .cons r (ROs.set q i t)
theorem ROs.start {M : Addr → Prop} {H : Hp} (k : Nat) : ∀ {ds : List D} {vs : List V}, Reps M H ds vs → ROs M H (ds.map some ++ List.replicate k none) (vs.map some ++ List.replicate k none)
  | _, _, .nil => by
    induction k with
    | zero => exact .nil
    | succ k ih => exact .cons (.none _) ih
  | _, _, .cons r t => .cons (.some r) (ROs.start k t)
structure EnvR (r : Rho) (m : Mu) (s : St) (H : Hp) : Prop where
  env : ROs (dom m) H r s
  mu : MutR m H
/-- forgetting what slots hold -/
inductive Le : Rho → Rho → Prop
  | nil : Le [] []
  | keep {d : Option D} {r r' : Rho} (t : Le r r') : Le (d :: r) (d :: r')
  | lose {d : Option D} {r r' : Rho} (t : Le r r') : Le (d :: r) (none :: r')
theorem ROs.le {M : Addr → Prop} {H : Hp} : ∀ {r r' : Rho} {v : St}, Le r r' → ROs M H r v → ROs M H r' v
  | _, _, _, .nil, h => h
  | _, _, _, .keep t, .cons a b => .cons a (ROs.le t b)
  | _, _, _, .lose t, .cons _ b => .cons (.none _) (ROs.le t b)

/-! ### exceptions -/
structure Ex where
  C : Addr
  ns : List Str
  ds : List D
def RepX (M : Addr → Prop) (H : Hp) (x : Ex) (cls : Value) (dd : Option Addr) : Prop :=
  cls = .ref x.C ∧ ((dd = none ∧ x.ns = [] ∧ x.ds = []) ∨ ∃ d gs, dd = some d ∧ H d = some (.xd gs) ∧ ¬ M d ∧ RepF M H x.ns x.ds gs)
theorem RepX.mono {M M' : Addr → Prop} {H H' : Hp} (s : Stp M H M' H') {x : Ex} {cls : Value} {dd : Option Addr} (h : RepX M H x cls dd) : RepX M' H' x cls dd := by
  obtain ⟨e, h⟩ := h
  refine ⟨e, ?_⟩
  rcases h with h | ⟨d, gs, h1, h2, h3, h4⟩
  · exact .inl h
  · exact .inr ⟨d, gs, h1, (s _ _ h2 h3).1, (s _ _ h2 h3).2, h4.mono s⟩

/-! ### what is wanted -/
abbrev KT := D → Mu → Prop
abbrev ET := Ex → Rho → Mu → Prop
def Go (m : Mu) (H : Hp) (K : KT) (Q : VK) : Prop := ∀ d m' v H', Stp (dom m) H (dom m') H' → MutR m' H' → Rep (dom m') H' d v → K d m' → Q v H'
def GoT (m : Mu) (H : Hp) (K : Bool → Mu → Prop) (Q : Bool → Hp → Prop) : Prop := ∀ b m' H', Stp (dom m) H (dom m') H' → MutR m' H' → K b m' → Q b H'
def GoA (m : Mu) (H : Hp) (K : List D → Mu → Prop) (Q : List V → Hp → Prop) : Prop := ∀ ds m' vs H', Stp (dom m) H (dom m') H' → MutR m' H' → Reps (dom m') H' ds vs → K ds m' → Q vs H'
/-- what is wanted of exceptions, at the frame's slots -/
def Rz (W : WX) (E : ET) (m : Mu) (H : Hp) : Prop := ∀ x r' m' cls dd s' H', Stp (dom m) H (dom m') H' → EnvR r' m' s' H' → RepX (dom m') H' x cls dd → E x r' m' → W cls dd s' H'
theorem Rz.step {W : WX} {E : ET} {m m1 : Mu} {H H1 : Hp} (z : Rz W E m H) (s : Stp (dom m) H (dom m1) H1) : Rz W E m1 H1 := fun x r' m' cls dd s' H' a b c e => z x r' m' cls dd s' H' (s.trans a) b c e
theorem Go.step {m m1 : Mu} {H H1 : Hp} {K : KT} {Q : VK} (g : Go m H K Q) (s : Stp (dom m) H (dom m1) H1) : Go m1 H1 K Q := fun d m' v H' a b c e => g d m' v H' (s.trans a) b c e

def We (W : WX) (E : ET) (t : TE) (r : Rho) (m : Mu) (K : KT) : Prop := ∀ s H Q, EnvR r m s H → Rz W E m H → Go m H K Q → t s H Q
def Wt (W : WX) (E : ET) (t : TT) (r : Rho) (m : Mu) (K : Bool → Mu → Prop) : Prop := ∀ s H Q, EnvR r m s H → Rz W E m H → GoT m H K Q → t s H Q
def Wa (W : WX) (E : ET) (t : TA) (r : Rho) (m : Mu) (K : List D → Mu → Prop) : Prop := ∀ s H Q, EnvR r m s H → Rz W E m H → GoA m H K Q → t s H Q
structure DEnds where
  nx : Rho → Mu → Prop
  rt : KT
  bk : Rho → Mu → Prop := fun _ _ => False
  ct : Rho → Mu → Prop := fun _ _ => False
structure GoS (m : Mu) (H : Hp) (P : DEnds) (De : Ends) : Prop where
  nx : ∀ r' m' s' H', Stp (dom m) H (dom m') H' → EnvR r' m' s' H' → P.nx r' m' → De.nx s' H'
  rt : ∀ d m' v H', Stp (dom m) H (dom m') H' → MutR m' H' → Rep (dom m') H' d v → P.rt d m' → De.rt v H'
  bk : ∀ r' m' s' H', Stp (dom m) H (dom m') H' → EnvR r' m' s' H' → P.bk r' m' → De.bk s' H'
  ct : ∀ r' m' s' H', Stp (dom m) H (dom m') H' → EnvR r' m' s' H' → P.ct r' m' → De.ct s' H'
theorem GoS.step {m m1 : Mu} {H H1 : Hp} {P : DEnds} {De : Ends} (g : GoS m H P De) (s : Stp (dom m) H (dom m1) H1) : GoS m1 H1 P De :=
  ⟨fun r' m' s' H' a => g.nx r' m' s' H' (s.trans a), fun d m' v H' a => g.rt d m' v H' (s.trans a), fun r' m' s' H' a => g.bk r' m' s' H' (s.trans a), fun r' m' s' H' a => g.ct r' m' s' H' (s.trans a)⟩
def Ws (W : WX) (E : ET) (t : TS) (r : Rho) (m : Mu) (P : DEnds) : Prop := ∀ s H De, EnvR r m s H → Rz W E m H → GoS m H P De → t De s H

section
variable {W : WX} {E : ET} {r : Rho} {m : Mu} {K : KT} {te ta tb tc : TE} {t u : TT} {a : TA} {P : DEnds} {ts tu : TS}
theorem EnvR.step {s : St} {H H1 : Hp} {m1 : Mu} (e : EnvR r m s H) (st : Stp (dom m) H (dom m1) H1) (mu : MutR m1 H1) : EnvR r m1 s H1 := ⟨e.env.mono st, mu⟩
/-- weaker wants -/
theorem We.imp {K' : KT} (h : We W E te r m K) (k : ∀ d m', K d m' → K' d m') : We W E te r m K' := fun s H Q e z g => h s H Q e z fun d m' v H' a b c x => g d m' v H' a b c (k d m' x)
theorem we_var {i : Nat} {d : D} (h : r[i]? = some (some d)) (k : K d m) : We W E (tVar i) r m K := fun s H Q e z g => by
  obtain ⟨v, h1, h2⟩ := e.env.get h
  exact ⟨v, h1, g d m v H (Stp.refl _ _) e.mu h2 k⟩
theorem we_cint {i : Int} (k : K (.int i) m) : We W E (tC (.int i)) r m K := fun s H Q e z g => g _ m _ H (Stp.refl _ _) e.mu (.int i) k
theorem we_cbl {b : Bool} (k : K (.bl b) m) : We W E (tC (.bl b)) r m K := fun s H Q e z g => g _ m _ H (Stp.refl _ _) e.mu (.bl b) k
theorem we_cnon (k : K .non m) : We W E (tC .non) r m K := fun s H Q e z g => g _ m _ H (Stp.refl _ _) e.mu .non k
theorem we_cstr {x : Str} (k : K (.str x) m) : We W E (tC (.str x)) r m K := fun s H Q e z g => g _ m _ H (Stp.refl _ _) e.mu (.str x) k
theorem we_cty {n : String} (k : K (.ty n) m) : We W E (tC (.ty n)) r m K := fun s H Q e z g => g _ m _ H (Stp.refl _ _) e.mu (.ty n) k
theorem we_cref {p : Addr} (k : K (.ref p) m) : We W E (tC (.ref p)) r m K := fun s H Q e z g => g _ m _ H (Stp.refl _ _) e.mu (.ref p) k

/-- an operation on values, at the frame's slots -/
abbrev O2 := V → V → St → Hp → VK → Prop
abbrev O1 := V → St → Hp → VK → Prop
def W2 (W : WX) (E : ET) (o : O2) (x y : D) (r : Rho) (m : Mu) (K : KT) : Prop := ∀ s H Q v w, EnvR r m s H → Rz W E m H → Rep (dom m) H x v → Rep (dom m) H y w → Go m H K Q → o v w s H Q
def W1 (W : WX) (E : ET) (o : O1) (x : D) (r : Rho) (m : Mu) (K : KT) : Prop := ∀ s H Q v, EnvR r m s H → Rz W E m H → Rep (dom m) H x v → Go m H K Q → o v s H Q
def t2 (o : O2) (ta tb : TE) : TE := fun s H Q => ta s H fun x H1 => tb s H1 fun y H2 => o x y s H2 Q
def t1 (o : O1) (ta : TE) : TE := fun s H Q => ta s H fun x H1 => o x s H1 Q
theorem we_2 {o : O2} (h : We W E ta r m fun x m1 => We W E tb r m1 fun y m2 => W2 W E o x y r m2 K) : We W E (t2 o ta tb) r m K := fun s H Q e z g =>
  h s H _ e z fun x m1 v H1 s1 mu1 r1 h1 => h1 s H1 _ (e.step s1 mu1) (z.step s1) fun y m2 w H2 s2 mu2 r2 h2 =>
    h2 s H2 Q v w ((e.step s1 mu1).step s2 mu2) ((z.step s1).step s2) (r1.mono s2) r2 ((g.step s1).step s2)
theorem we_1 {o : O1} (h : We W E ta r m fun x m1 => W1 W E o x r m1 K) : We W E (t1 o ta) r m K := fun s H Q e z g =>
  h s H _ e z fun x m1 v H1 s1 mu1 r1 h1 => h1 s H1 Q v (e.step s1 mu1) (z.step s1) r1 (g.step s1)

end
end DL
set_option Elab.async false
set_option linter.all false
set_option maxRecDepth 100000
/-! DL2: rules without types (an operation's reading is the union of what it can be), and what they do to values as trees. -/
namespace DL
open PySem PySem.Spec L2
open PyProof.Rows hiding St

/-! ### operations at the frame's slots -/
def OpS (X : Cx) (f : Value → Value → Sem Value) (o : O2) : Prop :=
  ∀ (pins : List (Addr × Obj)) (s : Shared) (σ : L2.St) (H : Hp) (x y : V) (u v : Value) (Q : VK), Inv X pins σ H s → RelV x u → RelV y v → o x y σ H Q → wpAny (model X.prog X.w) X.A (f u v) (EP X pins σ Q) X.xe s
def UnS (X : Cx) (f : Value → Sem Value) (o : O1) : Prop :=
  ∀ (pins : List (Addr × Obj)) (s : Shared) (σ : L2.St) (H : Hp) (x : V) (u : Value) (Q : VK), Inv X pins σ H s → RelV x u → o x σ H Q → wpAny (model X.prog X.w) X.A (f u) (EP X pins σ Q) X.xe s
abbrev OC := List V → L2.St → Hp → VK → Prop
def CallS (X : Cx) (f : Value) (o : OC) : Prop :=
  ∀ (pins : List (Addr × Obj)) (s : Shared) (σ : L2.St) (H : Hp) (xs : List V) (us : List Value) (Q : VK), Inv X pins σ H s → Vals xs us → o xs σ H Q → wpAny (model X.prog X.w) X.A (call f us) (EP X pins σ Q) X.xe s
def tC2 (o : OC) (t : TA) : TE := fun σ H Q => t σ H fun vs H1 => o vs σ H1 Q
section
variable {X : Cx} {op : Operator} {cop cop' : CmpOp} {uop : UnaryOp} {o o' : O2} {o1 o1' : O1} {oc oc' : OC} {a b c e : Expr} {es : List Expr} {ta tb tc : TE} {t : TA} {pos p : Pos} {f : Value → Value → Sem Value} {f1 : Value → Sem Value} {fv : Value} {x : Str} {T id : String}
theorem OpS.of {r : R2} (h : OpR X f r) : OpS X f (fun x y _ H Q => r x y H Q) := fun pins s σ H x y u v Q I ru rv q => h pins s σ H x y u v Q I ru rv q
theorem OpS.or (h : OpS X f o) (h' : OpS X f o') : OpS X f (fun x y s H Q => o x y s H Q ∨ o' x y s H Q) := fun pins s σ H x y u v Q I ru rv q => q.elim (h pins s σ H x y u v Q I ru rv) (h' pins s σ H x y u v Q I ru rv)
theorem UnS.of {r : V → Hp → VK → Prop} (h : UnR X f1 r) : UnS X f1 (fun x _ H Q => r x H Q) := fun pins s σ H x u Q I ru q => h pins s σ H x u Q I ru q
theorem UnS.or (h : UnS X f1 o1) (h' : UnS X f1 o1') : UnS X f1 (fun x s H Q => o1 x s H Q ∨ o1' x s H Q) := fun pins s σ H x u Q I ru q => q.elim (h pins s σ H x u Q I ru) (h' pins s σ H x u Q I ru)
theorem CallS.of {r : List V → Hp → VK → Prop} (h : CallR X fv r) : CallS X fv (fun xs _ H Q => r xs H Q) := fun pins s σ H xs us Q I ru q => h pins s σ H xs us Q I ru q
theorem CallS.or (h : CallS X fv oc) (h' : CallS X fv oc') : CallS X fv (fun xs s H Q => oc xs s H Q ∨ oc' xs s H Q) := fun pins s σ H xs us Q I ru q => q.elim (h pins s σ H xs us Q I ru) (h' pins s σ H xs us Q I ru)
theorem pe_bin (ho : OpS X (binaryOp op) o) (ha : PE X a ta) (hb : PE X b tb) : PE X (.BinOp a op b pos) (t2 o ta tb) :=
  ⟨fun pins s σ H Q I h => wpAny_BinOp (binT ha hb I (R := fun x y H2 => o x y σ H2 Q) h fun v u s2 x y H2 I2 r1 r2 q => ho pins s2 σ H2 x y v u Q I2 r1 r2 q)⟩
theorem pe_una (ho : UnS X (unaryOp uop) o1) (ha : PE X a ta) : PE X (.UnaryOp uop a pos) (t1 o1 ta) :=
  ⟨fun pins s σ H Q I h => UnaryOp_ (thn (ha.run pins s σ H _ I h) fun v s1 ⟨x, H1, I1, r1, q1⟩ => ho pins s1 σ H1 x v Q I1 r1 q1)⟩
theorem pe_cm (ho : OpS X (compareOp cop) o) (ha : PE X a ta) (hb : PE X b tb) (hm : behindInMarks cop b = false) : PE X (.Compare a [cop] [b] pos) (t2 o ta tb) :=
  ⟨fun pins s σ H Q I h => wpAny_Compare1 (binT ha hb I (R := fun x y H2 => o x y σ H2 Q) h fun v u s2 x y H2 I2 rx ry q => ho pins s2 σ H2 x y v u Q I2 rx ry q) hm⟩
theorem pt_cm (ho : OpS X (compareOp cop) o) (ha : PE X a ta) (hb : PE X b tb) (hm : behindInMarks cop b = false) : PT X (.Compare a [cop] [b] pos) (tTest (t2 o ta tb)) := by
  refine ⟨fun pins s σ H Q I h => ?_⟩
  refine wpAny_isTrue_Compare1 (thn (ha.run pins s σ H _ I h) fun v s1 ⟨x, H1, I1, r1, q1⟩ => thn (hb.run pins s1 σ H1 _ I1 q1) fun u s2 ⟨y, H2, I2, r2, q2⟩ =>
    thn (ho pins s2 σ H2 x y v u _ I2 r1 r2 q2) fun c s3 ⟨z, H3, I3, r3, k, e, q3⟩ => ?_) hm
  subst e
  cases r3
  exact wpAny_truthy_bool ⟨H3, I3, q3⟩
/-- a chain of two comparisons -/
def t3 (o o' : O2) (ta tb tc : TE) : TE := fun σ H Q => ta σ H fun x H1 => tb σ H1 fun y H2 => o x y σ H2 fun z H3 => ∃ k, z = .bl k ∧
  (if k = true then tc σ H3 fun w' H4 => o' y w' σ H4 Q else Q (.bl false) H3)
theorem pe_ch (ho : OpS X (compareOp cop) o) (ho' : OpS X (compareOp cop') o') (ha : PE X a ta) (hb : PE X b tb) (hc : PE X c tc)
    (hm : lastMarks [cop, cop'] [b, c] = false := by with_unfolding_all rfl) : PE X (.Compare a [cop, cop'] [b, c] pos) (t3 o o' ta tb tc) := by
  refine ⟨fun pins s σ H Q I h => ?_⟩
  refine Compare_chain (thn (ha.run pins s σ H _ I h) fun v s1 ⟨x, H1, I1, r1, q1⟩ => chain_link (thn (hb.run pins s1 σ H1 _ I1 q1) fun u s2 ⟨y, H2, I2, r2, q2⟩ =>
    thn (ho pins s2 σ H2 x y v u _ I2 r1 r2 q2) fun d s3 ⟨z, H3, I3, r3, k, e, q3⟩ => ?_)) hm
  subst e
  cases r3
  refine wpAny_truthy_bool ?_
  cases k with
  | false => exact ite_ff ⟨.bl false, H3, I3, rfl, q3⟩
  | true => exact ite_tt (chain_last (thn (hc.run pins s3 σ H3 _ I3 q3) fun w' s4 ⟨z', H4, I4, r4, q4⟩ => ho' pins s4 σ H4 y z' u w' Q I4 r2 r4 q4))
theorem pt_ch (ho : OpS X (compareOp cop) o) (ho' : OpS X (compareOp cop') o') (ha : PE X a ta) (hb : PE X b tb) (hc : PE X c tc)
    (hm : lastMarks [cop, cop'] [b, c] = false := by with_unfolding_all rfl) : PT X (.Compare a [cop, cop'] [b, c] pos) (tTest (t3 o o' ta tb tc)) := by
  refine ⟨fun pins s σ H Q I h => ?_⟩
  refine isTrue_chain (thn (ha.run pins s σ H _ I h) fun v s1 ⟨x, H1, I1, r1, q1⟩ => test_link (thn (hb.run pins s1 σ H1 _ I1 q1) fun u s2 ⟨y, H2, I2, r2, q2⟩ =>
    thn (ho pins s2 σ H2 x y v u _ I2 r1 r2 q2) fun d s3 ⟨z, H3, I3, r3, k, e, q3⟩ => ?_)) hm
  subst e
  cases r3
  refine wpAny_truthy_bool ?_
  cases k with
  | false =>
    obtain ⟨k', e', q'⟩ := q3
    cases e'
    exact ite_ff ⟨H3, I3, q'⟩
  | true =>
    refine ite_tt (test_last (thn (hc.run pins s3 σ H3 _ I3 q3) fun w' s4 ⟨z', H4, I4, r4, q4⟩ => thn (ho' pins s4 σ H4 y z' u w' _ I4 r2 r4 q4) fun d' s5 ⟨z2, H5, I5, r5, k2, e2, q5⟩ => ?_))
    subst e2
    cases r5
    exact wpAny_truthy_bool ⟨H5, I5, q5⟩
/-- a value as a test -/
def tTr (K : PySem.W.Frag) (ta : TE) : TT := fun σ H Q => ta σ H fun x H' => ∃ k, TruV K x H' k ∧ Q k H'
theorem pt_tr (ha : PE X a ta) (he : ∀ whole, isTrue a X.env whole = (do let v ← whole; standAt a.pos; holding [v] (truthy v)) := by intro _; rfl) : PT X a (tTr X.K ta) := pt_truth ha he
/-- built-in functions and classes by name -/
theorem pe_cb (hc : CallS X (.builtin id) oc) (hg : Gl X x) (hm : X.mg x = none) (hv : bootBuiltins x = some (.builtin id)) (ha : PA X (e :: es) t) (hn : x ≠ "__name__" := by decide) (hdb : (x == ("__debug__" : Str)) = false := by decide)
    (he : starEach (e :: es) X.env = (false, eval e X.env) :: starEach es X.env := by rfl) (hpl : (backTo pos (starEach es X.env)).any (·.1) = false := by rfl) : PE X (.Call (.Name x p) (e :: es) [] pos) (tC2 oc t) := by
  refine ⟨fun pins s σ H Q I h => ?_⟩
  refine wpAny_Call_Name_kw (ld_blt I hg hm hv ?_ hn hdb)
  exact PyProof.Rows.callWith_builtin1 (thn (ha.run pos pins s σ H _ I h) fun us s1 ⟨vs, H1, I1, r1, q1⟩ => hc pins s1 σ H1 vs us Q I1 r1 q1) he hpl
theorem pe_ct (hc : CallS X (.type T) oc) (hg : Gl X x) (hm : X.mg x = none) (hv : bootBuiltins x = some (.type T)) (ha : PA X (e :: es) t) (hn : x ≠ "__name__" := by decide) (hdb : (x == ("__debug__" : Str)) = false := by decide)
    (he : starEach (e :: es) X.env = (false, eval e X.env) :: starEach es X.env := by rfl) (hpl : (backTo pos (starEach es X.env)).any (·.1) = false := by rfl) : PE X (.Call (.Name x p) (e :: es) [] pos) (tC2 oc t) := by
  refine ⟨fun pins s σ H Q I h => ?_⟩
  refine wpAny_Call_Name_kw (ld_blt I hg hm hv ?_ hn hdb)
  exact PyProof.Rows.callWith_type1 (thn (ha.run pos pins s σ H _ I h) fun us s1 ⟨vs, H1, I1, r1, q1⟩ => hc pins s1 σ H1 vs us Q I1 r1 q1) he hpl
theorem pe_cf (hc : CallS X (.builtin id) oc) (hg : Gl X x) (hm : X.mg x = some (.builtin id)) (ha : PA X (e :: es) t) (hdb : (x == ("__debug__" : Str)) = false := by decide)
    (he : starEach (e :: es) X.env = (false, eval e X.env) :: starEach es X.env := by rfl) (hpl : (backTo pos (starEach es X.env)).any (·.1) = false := by rfl) : PE X (.Call (.Name x p) (e :: es) [] pos) (tC2 oc t) := by
  refine ⟨fun pins s σ H Q I h => ?_⟩
  refine wpAny_Call_Name_kw (ld_glob I hg hm ?_ hdb)
  exact PyProof.Rows.callWith_builtin1 (thn (ha.run pos pins s σ H _ I h) fun us s1 ⟨vs, H1, I1, r1, q1⟩ => hc pins s1 σ H1 vs us Q I1 r1 q1) he hpl
end
end DL
set_option Elab.async false
set_option linter.all false
set_option maxRecDepth 100000
/-! DL3: promises over trees; defs, methods, classes called; bodies. -/
namespace DL
open PySem PySem.Spec L2
open PyProof.Rows hiding St

/-- a promise over trees: the arguments, what lies mutable, what is wanted of the answer, of an exception -/
abbrev SpecD := List D → Mu → KT → (Ex → Mu → Prop) → Prop
def GoX (m : Mu) (H : Hp) (E : Ex → Mu → Prop) (F : XK) : Prop := ∀ x m' cls dd H', Stp (dom m) H (dom m') H' → MutR m' H' → RepX (dom m') H' x cls dd → E x m' → F cls dd H'
def spD (n : Nat) (S : SpecD) : Sp := fun vs H Q F => ∃ ds m K E, ds.length = n ∧ Reps (dom m) H ds vs ∧ MutR m H ∧ S ds m K E ∧ Go m H K Q ∧ GoX m H E F
/-- the world of a law: its program, what the top has written -/
structure Gx where
  P : Program
  w : World
  K : PySem.W.Frag
  mg : Str → Option Value
  base : Heap
abbrev Gx.of (X : Cx) : Gx := ⟨X.prog, X.w, X.K, X.mg, X.base⟩
/-- constants handed in as defaults -/
def ofD : D → V
  | .int i => .int i
  | .bl b => .bl b
  | .str x => .str x
  | .ref a => .ref a
  | .ty n => .ty n
  | _ => .non
def isC : D → Bool
  | .int _ => true
  | .bl _ => true
  | .str _ => true
  | .ref _ => true
  | .ty _ => true
  | .non => true
  | _ => false
theorem rep_c {M : Addr → Prop} {H : Hp} : ∀ {d : D}, isC d = true → Rep M H d (ofD d)
  | .non, _ => .non
  | .bl b, _ => .bl b
  | .int i, _ => .int i
  | .str x, _ => .str x
  | .ty n, _ => .ty n
  | .ref a, _ => .ref a
  | .tup _, h => by cases h
  | .lst _, h => by cases h
  | .dic _, h => by cases h
  | .ins _ _ _, h => by cases h
  | .exc _ _ _ _ _, h => by cases h
theorem reps_c {M : Addr → Prop} {H : Hp} : ∀ {ds : List D}, ds.all isC = true → Reps M H ds (ds.map ofD)
  | [], _ => .nil
  | d :: ds, h => by
    rw [List.all_cons, Bool.and_eq_true] at h
    exact .cons (rep_c h.1) (reps_c h.2)
/-- a def that stands at f: n parameters, defaults dd -/
structure Fnx (G : Gx) (k : Nat) (f : Addr) (n : Nat) (S : SpecD) (dd : List D) : Prop where
  ex : ∃ (fd : FuncData) (ps : List Str) (ds : List Value), FnOk G.P G.w G.K G.mg G.base (L2N.CX G.P G.w) k f fd ps (spD n S) ∧ Binds G.K fd ps ds ∧ Vals (dd.map ofD) ds
  cs : dd.all isC = true
structure Cal (G : Gx) (k : Nat) (x : Str) (n : Nat) (S : SpecD) (dd : List D) : Prop where
  ex : ∃ f, Fnx G k f n S dd ∧ G.mg x = some (.ref f) ∧ PySem.W.keepIn G.K (.ref f) = true
/-- a method mt of the class at C, whose instances have the fields ns -/
structure Met (G : Gx) (k : Nat) (C : Addr) (ns : List Str) (mt : Str) (n : Nat) (S : SpecD) (dd : List D) : Prop where
  ex : ∃ f, Fnx G k f n S dd ∧ Meth G.K C mt f
  cl : Cls G.K C
  no : ns.contains mt = false
structure Mak (G : Gx) (k : Nat) (x : Str) (C : Addr) (n : Nat) (S : SpecD) (dd : List D) : Prop where
  ex : ∃ f, Fnx G k f n S dd ∧ Mk G.K C f
  mgC : G.mg x = some (.ref C)

section
variable {X : Cx} {W : WX} {E : ET} {r : Rho} {m : Mu} {K : KT} {S : SpecD} {x mt : Str} {k j n : Nat} {dd : List D} {e o : Expr} {es : List Expr} {t : TA} {to : TE} {p pos apos : Pos} {C : Addr} {ns : List Str}

/-! ### a def by its name -/
def tCl (n : Nat) (S : SpecD) (dd : List D) (W : WX) (t : TA) : TE := tCallSD (spD n S) (dd.map ofD) (WE W) t
theorem pe_cl (c : Cal (Gx.of X) k x n S dd) (hr : Room j X.A) (hk : k ≤ j) (tk : L2N.Takes X W) (hg : Gl X x) (ha : PA X (e :: es) t)
    (hdb : (x == ("__debug__" : Str)) = false := by decide) (he : starEach (e :: es) X.env = (false, eval e X.env) :: starEach es X.env := by rfl) (hpl : (backTo pos (starEach es X.env)).any (·.1) = false := by rfl) :
    PE X (.Call (.Name x p) (e :: es) [] pos) (tCl n S dd W t) := by
  obtain ⟨f, ⟨⟨fd, ps, ds, F, b, d⟩, cs⟩, hm, kp⟩ := c.ex
  exact pe_callSD F (hr.mono hk) hg hm kp b d (L2N.passAt tk) ha hdb he hpl
theorem spD_of {ds : List D} {vs : List V} {m1 : Mu} {H1 : Hp} {Q : VK} {s : L2.St} {F : Ex → Mu → Prop} (hn : ds.length = n) (e : EnvR r m1 s H1) (z : Rz W E m1 H1) (g : Go m1 H1 K Q) (rs : Reps (dom m1) H1 ds vs)
    (h : S ds m1 K F) (hF : ∀ x m', F x m' → E x r m') : spD n S vs H1 Q (WE W s) :=
  ⟨ds, m1, K, F, hn, rs, e.mu, h, g, fun x m' cls dd H' a b c q => z x r m' cls dd s H' a (e.step a b) c (hF x m' q)⟩
theorem we_cl (cs : dd.all isC = true) (h : Wa W E t r m fun ds m1 => (ds ++ dd).length = n ∧ S (ds ++ dd) m1 K fun x m' => E x r m') : We W E (tCl n S dd W t) r m K := fun s H Q e z g =>
  h s H _ e z fun ds m1 vs H1 st mu rs q => spD_of q.1 (e.step st mu) (z.step st) (g.step st) (rs.append (reps_c cs)) q.2 fun _ _ q => q

/-! ### a method of an instance -/
def tMt (G : Gx) (j : Nat) (W : WX) (mt : Str) (to : TE) (t : TA) : TE := fun σ H Q => to σ H fun x H1 => ∃ (a C dx : Addr) (fs : List (Str × V)) (k n : Nat) (ns : List Str) (S : SpecD) (dd : List D), x = .ref a ∧ H1 a = some (.ins C dx fs) ∧ fs.lookup mt = none ∧ k ≤ j ∧ Met G k C ns mt n S dd ∧
  t σ H1 fun vs H2 => spD n S (x :: (vs ++ dd.map ofD)) H2 Q (WE W σ)
theorem pe_mth {pl : Sem Bool} (hr : Room j X.A) (tk : L2N.Takes X W) (he : PE X o to) (ha : PA X (e :: es) t)
    (hst : starEach (e :: es) X.env = (false, eval e X.env) :: starEach es X.env := by rfl) (hpl : (backTo pos (starEach es X.env)).any (·.1) = false := by rfl)
    (ht : eval (.Call (.Attribute o mt apos) (e :: es) [] pos) X.env = (do
      let ov ← eval o X.env
      standAt apos.atName
      let (f, first) ← holding [ov] (getMethod ov mt pl)
      callWith pos f first (backTo pos (starEach (e :: es) X.env)) (backToKw pos (keywordEach [] X.env))) := by rfl) :
    PE X (.Call (.Attribute o mt apos) (e :: es) [] pos) (tMt (Gx.of X) j W mt to t) := by
  refine ⟨fun pins s σ H Q I h => ?_⟩
  refine PySem.W.methodCall_KW (pl := pl) (thn (he.run pins s σ H _ I h) fun u s1 ⟨x, H1, I1, rx, a, C, dx, fs, k, n, ns, S, dd, ex, ea, l, hk, M, q⟩ => ?_) ht
  subst ex
  obtain rfl : u = Value.ref a := rx
  obtain ⟨f, ⟨⟨fd, ps, ds, F, b, d⟩, cs⟩, hm⟩ := M.ex
  refine getmeth_ok I1 ea M.cl hm l ?_
  refine PySem.W.callWith_K (first := [.ref a]) (h₀ := X.base) I.ok.mod.kin hm.kp (thn (ha.run pos pins s1 σ H1 _ I1 q) fun us s2 ⟨vs, H2, I2, rr, q2⟩ => ⟨I2.kIn, ?_⟩) hst hpl
  exact run_fnSD (E := WE W) (us := .ref a :: us) (vs := .ref a :: vs) F (hr.mono hk) b d (L2N.passAt tk σ) I2 (.cons rfl rr) q2
theorem pe_mth0 {pl : Sem Bool} (hr : Room j X.A) (tk : L2N.Takes X W) (he : PE X o to)
    (ht : eval (.Call (.Attribute o mt apos) [] [] pos) X.env = (do
      let ov ← eval o X.env
      standAt apos.atName
      let (f, first) ← holding [ov] (getMethod ov mt pl)
      callWith pos f first (backTo pos (starEach [] X.env)) (backToKw pos (keywordEach [] X.env))) := by rfl) :
    PE X (.Call (.Attribute o mt apos) [] [] pos) (tMt (Gx.of X) j W mt to tNil) := by
  refine ⟨fun pins s σ H Q I h => ?_⟩
  refine PySem.W.methodCall_KW (pl := pl) (thn (he.run pins s σ H _ I h) fun u s1 ⟨x, H1, I1, rx, a, C, dx, fs, k, n, ns, S, dd, ex, ea, l, hk, M, q⟩ => ?_) ht
  subst ex
  obtain rfl : u = Value.ref a := rx
  obtain ⟨f, ⟨⟨fd, ps, ds, F, b, d⟩, cs⟩, hm⟩ := M.ex
  refine getmeth_ok I1 ea M.cl hm l ?_
  exact PySem.W.callWith_K0 (first := [.ref a]) I1.kIn hm.kp (run_fnSD (E := WE W) (us := [.ref a]) (vs := [.ref a]) F (hr.mono hk) b d (L2N.passAt tk σ) I1 (.cons rfl .nil) q)
/-- the instance that a tree is -/
inductive InsD : D → Mu → Addr → List Str → Prop
  | fixed {m : Mu} {C : Addr} {ns : List Str} {ds : List D} : InsD (.ins C ns ds) m C ns
  | mutb {m : Mu} {C a : Addr} {ns : List Str} {ds : List D} (h : At m a (.ins C ns ds)) : InsD (.ref a) m C ns
theorem InsD.look {d : D} {m : Mu} {C : Addr} {ns : List Str} {H : Hp} {v : V} (i : InsD d m C ns) (mu : MutR m H) (rp : Rep (dom m) H d v) : ∃ a dx gs ds, v = .ref a ∧ H a = some (.ins C dx gs) ∧ RepF (dom m) H ns ds gs := by
  cases i with
  | fixed =>
    cases rp with
    | ins mm h rf => exact ⟨_, _, _, _, rfl, h, rf⟩
  | mutb h =>
    cases rp
    have q := h.rep mu
    cases q with
    | ins h rf => exact ⟨_, _, _, _, rfl, h, rf⟩
theorem we_mt {G : Gx} (h : We W E to r m fun d m1 => ∃ (k n : Nat) (C : Addr) (ns : List Str) (S : SpecD) (dd : List D), Met G k C ns mt n S dd ∧ dd.all isC = true ∧ k ≤ j ∧ InsD d m1 C ns ∧
    Wa W E t r m1 fun ds m2 => (d :: (ds ++ dd)).length = n ∧ S (d :: (ds ++ dd)) m2 K fun x m' => E x r m') : We W E (tMt G j W mt to t) r m K := fun s H Q e z g =>
  h s H _ e z fun d m1 v H1 st mu rd q => by
    obtain ⟨k, n, C, ns, S, dd, M, cs, hk, i, q⟩ := q
    obtain ⟨a, dx, gs, ds', rfl, ha, rf⟩ := i.look mu rd
    refine ⟨a, C, dx, gs, k, n, ns, S, dd, rfl, ha, rf.no M.no, hk, M, ?_⟩
    refine q s H1 _ (e.step st mu) (z.step st) fun ds m2 vs H2 st2 mu2 rs q2 => ?_
    exact spD_of q2.1 ((e.step st mu).step st2 mu2) ((z.step st).step st2) ((g.step st).step st2) (.cons (rd.mono st2) (rs.append (reps_c cs))) q2.2 fun _ _ q => q

/-! ### a class by its name -/
theorem run_makeS {CX : CXT} {k : Nat} {C f : Addr} {fd : FuncData} {ps : List Str} {sp : Sp} {ds : List Value} {dvs : List V} {E : L2.St → XK} {pins : List (Addr × Obj)} {σ : L2.St} {H : Hp} {s : Shared} {Q : VK} {us : List Value} {vs : List V} (M : Mk X.K C f) (F : FnOk X.prog X.w X.K X.mg X.base CX k f fd ps sp) (hr : Room (k + 1) X.A) (hb : Binds X.K fd ps ds) (hd : Vals dvs ds)
    (hx : PassesAt CX X σ (E σ)) (I : Inv X pins σ H s) (r : Vals vs us)
    (h : ∀ x dx, H x = none → H dx = none → dx ≠ x → sp (.ref x :: (vs ++ dvs)) (upd (upd H dx (.own x)) x (.ins C dx [])) (fun v H2 => v = .non ∧ Q (.ref x) H2) (E σ)) :
    wpAny (model X.prog X.w) X.A (call (.ref C) us) (EP X pins σ Q) X.xe s := by
  have hq := h (s.heap.objs.size + 1) s.heap.objs.size (I.hok.fresh (Nat.le_succ _)) (I.hok.fresh (Nat.le_refl _)) (Nat.ne_of_lt (Nat.lt_succ_self _))
  have I2 := Inv.made (C := C) I
  have r2 : Vals (V.ref (s.heap.objs.size + 1) :: (vs ++ dvs)) (Value.ref (s.heap.objs.size + 1) :: (us ++ ds)) := .cons rfl (r.append hd)
  have hl : (Value.ref (s.heap.objs.size + 1) :: us ++ ds).length = ps.length := by
    have e := r2.length
    rw [F.len _ _ _ _ hq] at e
    exact e.symm
  refine wpAny_call (make_map (f := f) I.kIn M.makes M.init (beq_iff_eq.mp M.fn) (codeAny_mono (F.run _ X.stack _ _ ⟨Value.ref (s.heap.objs.size + 1) :: us, []⟩ (Value.ref (s.heap.objs.size + 1) :: (us ++ ds)) _ _ (E σ) (hr.make C us [])
    (I2.env0.make C us []) (hb _ (Value.ref (s.heap.objs.size + 1) :: us) I2.kIn hl) r2 hq) fun r s' hq' => ?_))
  cases r with
  | error e => exact hx pins _ _ e s' I2 hq'
  | ok fl =>
    cases fl with
    | ret u =>
      obtain ⟨v, H', I3, rv, ev, q3⟩ := I2.after hq'
      subst ev
      exact ⟨rv, ⟨V.ref (s.heap.objs.size + 1), H', I3, rfl, q3⟩⟩
    | next => exact False.elim hq'
    | brk => exact False.elim hq'
    | cont => exact False.elim hq'
def tMk (C : Addr) (n : Nat) (S : SpecD) (dd : List D) (W : WX) (t : TA) : TE := fun σ H Q => t σ H fun vs H1 => ∀ x dx, H1 x = none → H1 dx = none → dx ≠ x →
  spD n S (.ref x :: (vs ++ dd.map ofD)) (upd (upd H1 dx (.own x)) x (.ins C dx [])) (fun v H2 => v = .non ∧ Q (.ref x) H2) (WE W σ)
theorem pe_mak (c : Mak (Gx.of X) k x C n S dd) (hr : Room j X.A) (hk : k + 1 ≤ j) (tk : L2N.Takes X W) (hg : Gl X x) (ha : PA X (e :: es) t)
    (hdb : (x == ("__debug__" : Str)) = false := by decide) (he : starEach (e :: es) X.env = (false, eval e X.env) :: starEach es X.env := by rfl) (hpl : (backTo pos (starEach es X.env)).any (·.1) = false := by rfl) :
    PE X (.Call (.Name x p) (e :: es) [] pos) (tMk C n S dd W t) := by
  obtain ⟨f, ⟨⟨fd, ps, ds, F, b, d⟩, cs⟩, M⟩ := c.ex
  refine ⟨fun pins s σ H Q I h => ?_⟩
  refine wpAny_Call_Name_kw (ld_glob I hg c.mgC ?_ hdb)
  refine PySem.W.callWith_K (h₀ := X.base) I.ok.mod.kin M.kp (thn (ha.run pos pins s σ H _ I h) fun us s1 ⟨vs, H1, I1, r, q⟩ => ⟨I1.kIn, ?_⟩) he hpl
  exact run_makeS (E := WE W) M F (hr.mono hk) b d (L2N.passAt tk σ) I1 r q
theorem pe_mak0 (c : Mak (Gx.of X) k x C n S dd) (hr : Room j X.A) (hk : k + 1 ≤ j) (tk : L2N.Takes X W) (hg : Gl X x) (hdb : (x == ("__debug__" : Str)) = false := by decide) :
    PE X (.Call (.Name x p) [] [] pos) (tMk C n S dd W tNil) := by
  obtain ⟨f, ⟨⟨fd, ps, ds, F, b, d⟩, cs⟩, M⟩ := c.ex
  refine ⟨fun pins s σ H Q I h => ?_⟩
  refine wpAny_Call_Name_kw (ld_glob I hg c.mgC ?_ hdb)
  exact PySem.W.callWith_K0 I.kIn M.kp (run_makeS (E := WE W) (us := []) M F (hr.mono hk) b d (L2N.passAt tk σ) I .nil h)
/-- a new instance that stays as __init__ leaves it -/
theorem we_mk (cs : dd.all isC = true) (h : Wa W E t r m fun ds m1 => (ds ++ dd).length + 1 = n ∧ ∀ x, ¬ dom m1 x →
    S (.ref x :: (ds ++ dd)) ((x, .ins C [] []) :: m1) (fun d m2 => ∃ ns fs, d = .non ∧ m2 = (x, .ins C ns fs) :: m1 ∧ K (.ins C ns fs) m1) fun ex m2 => ∃ o, m2 = (x, o) :: m1 ∧ E ex r m1) : We W E (tMk C n S dd W t) r m K := fun s H Q e z g =>
  h s H _ e z fun ds m1 vs H1 st mu rs q x dx hx hdx hne => by
    have hn1 : upd H1 dx (.own x) x = none := by rw [upd_ne (Ne.symm hne)]; exact hx
    have s1 : Stp (dom m1) H1 (dom m1) (upd H1 dx (.own x)) := Stp.new hdx
    have mu1 : MutR m1 (upd H1 dx (.own x)) := mu.new hdx
    have s2 : Stp (dom m1) (upd H1 dx (.own x)) (dom ((x, .ins C [] []) :: m1)) (upd (upd H1 dx (.own x)) x (.ins C dx [])) := Stp.newM hn1
    have mu2 : MutR ((x, .ins C [] []) :: m1) (upd (upd H1 dx (.own x)) x (.ins C dx [])) := mu1.newM hn1 (.ins upd_same .nil)
    have nd : ¬ dom m1 x := mu2.notin
    refine ⟨.ref x :: (ds ++ dd), _, _, _, by rw [List.length_cons]; exact q.1, .cons (.ref x) ((rs.append (reps_c cs)).mono (s1.trans s2)), mu2, q.2 x nd, ?_, ?_⟩
    · rintro d m' v H' a b c ⟨ns, fs, rfl, rfl, k⟩
      cases c
      refine ⟨rfl, ?_⟩
      have at1 := (At.head (m := m1) (p := x) (o := .ins C ns fs)).rep b
      have ls : Stp (dom ((x, MO.ins C ns fs) :: m1)) H' (dom m1) H' := Stp.less fun a z => dom_cons.mpr (.inr z)
      cases at1 with
      | ins hh rf => exact g _ m1 _ H' (st.trans ((s1.trans s2).trans (a.trans ls))) b.drop (.ins nd hh (rf.mono ls)) k
    · rintro ex m' cls dd' H' a b c ⟨o, rfl, k⟩
      have ls : Stp (dom ((x, o) :: m1)) H' (dom m1) H' := Stp.less fun a z => dom_cons.mpr (.inr z)
      have tot := st.trans ((s1.trans s2).trans (a.trans ls))
      exact z ex r m1 cls dd' s H' tot (e.step tot b.drop) (c.mono ls) k
end

/-! ### bodies -/
abbrev cxG (G : Gx) (N : List Str) (qual : Str) (st : Stmt) (f : Addr) (cdv : Value) (A : Around) (outer : List Env) (s : Shared) (H : Hp) (F : XK) : Cx := cxOf (L2N.CX G.P G.w) G.P G.w G.K G.mg G.base N qual (defScope st) f cdv A outer s H F
abbrev wF (F : XK) : WX := fun cls d _ H => F cls d H
abbrev eF (E : Ex → Mu → Prop) : ET := fun x _ m => E x m
abbrev pF (K : KT) : DEnds := { nx := fun _ m => K .non m, rt := K }
/-- a promise is kept by the body of the def -/
abbrev FunW (K : PySem.W.Frag) (x qual : Str) (st : Stmt) (dvs : List V) (f : Addr) (fd : FuncData) : Prop := FunD K x qual (defArgs st) (defBody st) (defScope st) dvs [] f fd
theorem funW_of {K : PySem.W.Frag} {x qual : Str} {st : Stmt} {f : Addr} {fd : FuncData} (F : L2.Fun K x qual st f fd) : FunW K x qual st [] f fd := by
  have kp := F.kp
  obtain ⟨oc, od, kV, doc, pm, an, cdv, ct, osl, rfl, lk, hcd⟩ := F.ex
  exact ⟨⟨oc, od, _, kV, doc, pm, an, cdv, ct, osl, rfl, lk, hcd, .inl ⟨rfl, rfl⟩, .inl rfl⟩, kp⟩
theorem fnok_ofD {G : Gx} {xn qual : Str} {st : Stmt} {f : Addr} {fd : FuncData} {N ps : List Str} {k n : Nat} {S : SpecD} {dvs : List V} (F : FunW G.K xn qual st dvs f fd) (Sc : FnScope N ps (defScope st)) (hn : ps.length = n)
    (h : ∀ (cdv : Value) (A : Around) (outer : List Env) (s : Shared) (H : Hp) (F : XK), Room k (cxG G N qual st f cdv A outer s H F).A → L2N.Takes (cxG G N qual st f cdv A outer s H F) (wF F) →
      ∃ t, PSs (cxG G N qual st f cdv A outer s H F) (defBody st) t ∧ ∀ ds m K E, ds.length = n → S ds m K E → Ws (wF F) (eF E) t (ds.map some ++ List.replicate (N.length - n) none) m (pF K)) : FnOk G.P G.w G.K G.mg G.base (L2N.CX G.P G.w) (k + 1) f fd ps (spD n S) := by
  obtain ⟨oc, od, dV, kV, doc, pm, an, cdv, ct, osl, rfl, lk, hcd, _, _⟩ := F.ex
  refine fn_of lk hcd Sc (fun vs H Q E q => ?_) (fun A outer s H vs Q E hr q => ?_)
  · obtain ⟨ds, m, K, E, h1, h2, _⟩ := q
    rw [← h2.length, h1, hn]
  · obtain ⟨ds, m, K, E', h1, h2, mu, hs, g, gx⟩ := q
    obtain ⟨t, ht, hw⟩ := h cdv A outer s H E hr (L2N.takes_of rfl rfl rfl rfl)
    refine ⟨t, ht, hw ds m K E' h1 hs _ H _ ⟨?_, mu⟩ ?_ ?_⟩
    · have e : vs.length = n := by rw [← h2.length, h1]
      unfold L2.start
      rw [e]
      exact ROs.start _ h2
    · intro x r' m' cls dd s' H' a b c q
      exact gx x m' cls dd H' a b.mu c q
    · exact ⟨fun r' m' s' H' a b q => g _ m' _ H' a b.mu .non q, fun d m' v H' a b c q => g d m' v H' a b c q, fun _ _ _ _ _ _ q => q, fun _ _ _ _ _ _ q => q⟩
theorem fnok_of {G : Gx} {xn qual : Str} {st : Stmt} {f : Addr} {fd : FuncData} {N ps : List Str} {k n : Nat} {S : SpecD} (F : L2.Fun G.K xn qual st f fd) (Sc : FnScope N ps (defScope st)) (hn : ps.length = n)
    (h : ∀ (cdv : Value) (A : Around) (outer : List Env) (s : Shared) (H : Hp) (F : XK), Room k (cxG G N qual st f cdv A outer s H F).A → L2N.Takes (cxG G N qual st f cdv A outer s H F) (wF F) →
      ∃ t, PSs (cxG G N qual st f cdv A outer s H F) (defBody st) t ∧ ∀ ds m K E, ds.length = n → S ds m K E → Ws (wF F) (eF E) t (ds.map some ++ List.replicate (N.length - n) none) m (pF K)) : FnOk G.P G.w G.K G.mg G.base (L2N.CX G.P G.w) (k + 1) f fd ps (spD n S) := fnok_ofD (funW_of F) Sc hn h
theorem fnx_ofD {G : Gx} {xn qual : Str} {st : Stmt} {f : Addr} {fd : FuncData} {N ps : List Str} {k n : Nat} {S : SpecD} {dvs : List V} {dd : List D} {ds : List Value} (F : FunW G.K xn qual st dvs f fd) (Sc : FnScope N ps (defScope st)) (hn : ps.length = n)
    (b : Binds G.K fd ps ds) (d : Vals (dd.map ofD) ds) (cs : dd.all isC = true)
    (h : ∀ (cdv : Value) (A : Around) (outer : List Env) (s : Shared) (H : Hp) (F : XK), Room k (cxG G N qual st f cdv A outer s H F).A → L2N.Takes (cxG G N qual st f cdv A outer s H F) (wF F) →
      ∃ t, PSs (cxG G N qual st f cdv A outer s H F) (defBody st) t ∧ ∀ ds m K E, ds.length = n → S ds m K E → Ws (wF F) (eF E) t (ds.map some ++ List.replicate (N.length - n) none) m (pF K)) : Fnx G (k + 1) f n S dd := ⟨⟨_, ps, ds, fnok_ofD F Sc hn h, b, d⟩, cs⟩
theorem fnx_of {G : Gx} {xn qual : Str} {st : Stmt} {f : Addr} {fd : FuncData} {N ps : List Str} {k n : Nat} {S : SpecD} {dd : List D} {ds : List Value} (F : L2.Fun G.K xn qual st f fd) (Sc : FnScope N ps (defScope st)) (hn : ps.length = n)
    (b : Binds G.K fd ps ds) (d : Vals (dd.map ofD) ds) (cs : dd.all isC = true)
    (h : ∀ (cdv : Value) (A : Around) (outer : List Env) (s : Shared) (H : Hp) (F : XK), Room k (cxG G N qual st f cdv A outer s H F).A → L2N.Takes (cxG G N qual st f cdv A outer s H F) (wF F) →
      ∃ t, PSs (cxG G N qual st f cdv A outer s H F) (defBody st) t ∧ ∀ ds m K E, ds.length = n → S ds m K E → Ws (wF F) (eF E) t (ds.map some ++ List.replicate (N.length - n) none) m (pF K)) : Fnx G (k + 1) f n S dd := fnx_ofD (funW_of F) Sc hn b d cs h
/-! ### defs called within an except suite: nothing is raised -/
structure CalH (G : Gx) (k : Nat) (x : Str) (n : Nat) (S : SpecD) : Prop where
  ex : ∃ (f : Addr) (fd : FuncData) (ps : List Str), L2H.FnH G.P G.w G.K G.mg G.base (L2N.CX G.P G.w) k f fd ps (spD n S) ∧ Binds G.K fd ps [] ∧ G.mg x = some (.ref f) ∧ PySem.W.keepIn G.K (.ref f) = true
abbrev cxGH (G : Gx) (N : List Str) (qual : Str) (st : Stmt) (f : Addr) (cdv : Value) (A : Around) (outer : List Env) (s : Shared) (H : Hp) (F : XK) (p : Addr × Obj) : Cx := L2H.cxH (L2N.CX G.P G.w) G.P G.w G.K G.mg G.base N qual (defScope st) f cdv A outer s H F p
theorem calH_of {G : Gx} {x : Str} {st : Stmt} {f : Addr} {fd : FuncData} {N ps : List Str} {k n : Nat} {S : SpecD} (F : L2.Fun G.K x x st f fd) (hm : G.mg x = some (.ref f)) (Sc : FnScope N ps (defScope st)) (hn : ps.length = n)
    (b : Binds G.K fd ps [])
    (h : ∀ (cdv : Value) (A : Around) (outer : List Env) (s : Shared) (H : Hp) (F : XK) (p : Addr × Obj), L2H.Hot1 A p → L2H.RoomH k (cxGH G N x st f cdv A outer s H F p).A → L2N.Takes (cxGH G N x st f cdv A outer s H F p) (wF F) →
      ∃ t, PSs (cxGH G N x st f cdv A outer s H F p) (defBody st) t ∧ ∀ ds m K E, ds.length = n → S ds m K E → Ws (wF F) (eF E) t (ds.map some ++ List.replicate (N.length - n) none) m (pF K)) : CalH G (k + 1) x n S := by
  have kp := F.kp
  obtain ⟨oc, od, kV, doc, pm, an, cdv, ct, osl, rfl, lk, hcd⟩ := F.ex
  refine ⟨f, _, ps, L2H.fn_ofH lk hcd Sc (fun vs H Q E q => ?_) (fun A outer s H vs Q E p hot hr q => ?_), b, hm, kp⟩
  · obtain ⟨ds, m, K, E, h1, h2, _⟩ := q
    rw [← h2.length, h1, hn]
  · obtain ⟨ds, m, K, E', h1, h2, mu, hs, g, gx⟩ := q
    obtain ⟨t, ht, hw⟩ := h cdv A outer s H E p hot hr (L2N.takes_of rfl rfl rfl rfl)
    refine ⟨t, ht, hw ds m K E' h1 hs _ H _ ⟨?_, mu⟩ ?_ ?_⟩
    · have e : vs.length = n := by rw [← h2.length, h1]
      unfold L2.start
      rw [e]
      exact ROs.start _ h2
    · intro x r' m' cls dd s' H' a b c q
      exact gx x m' cls dd H' a b.mu c q
    · exact ⟨fun r' m' s' H' a b q => g _ m' _ H' a b.mu .non q, fun d m' v H' a b c q => g d m' v H' a b c q, fun _ _ _ _ _ _ q => q, fun _ _ _ _ _ _ q => q⟩
section
variable {X : Cx} {W : WX} {E : ET} {r : Rho} {m : Mu} {K : KT} {S : SpecD} {x : Str} {k j n : Nat} {e : Expr} {es : List Expr} {t : TA} {p pos : Pos}
def tClH (n : Nat) (S : SpecD) (W : WX) (t : TA) : TE := tCallS (spD n S) (WE W) t
theorem pe_clH (c : CalH (Gx.of X) k x n S) (hr : L2H.RoomH j X.A) (hk : k ≤ j) (hc : L2H.HotC X) (tk : L2N.Takes X W) (hg : Gl X x) (ha : PA X (e :: es) t)
    (hdb : (x == ("__debug__" : Str)) = false := by decide) (he : starEach (e :: es) X.env = (false, eval e X.env) :: starEach es X.env := by rfl) (hpl : (backTo pos (starEach es X.env)).any (·.1) = false := by rfl) :
    PE X (.Call (.Name x p) (e :: es) [] pos) (tClH n S W t) := by
  obtain ⟨f, fd, ps, F, b, hm, kp⟩ := c.ex
  exact L2H.pe_callH F (hr.mono hk) hc hg hm kp b (L2N.passAt tk) ha hdb he hpl
theorem we_clH (h : Wa W E t r m fun ds m1 => ds.length = n ∧ S ds m1 K fun x m' => E x r m') : We W E (tClH n S W t) r m K := fun s H Q e z g =>
  h s H _ e z fun ds m1 vs H1 st mu rs q => spD_of q.1 (e.step st mu) (z.step st) (g.step st) rs q.2 fun _ _ q => q
end
end DL
set_option Elab.async false
set_option linter.all false
set_option maxRecDepth 100000
/-! DL4: operators. -/
namespace DL
open PySem PySem.Spec L2
open PyProof.Rows hiding St

/-! ### an own class's operator -/
/-- the class at C takes the special method nm: n values, the promise S -/
structure Opr (G : Gx) (k : Nat) (C : Addr) (nm : Str) (n : Nat) (S : SpecD) : Prop where
  ex : ∃ f, Fnx G k f n S [] ∧ PySem.W.findIn G.K (.ref C) nm = some (some (.ref f)) ∧ PySem.W.isFn G.K (.ref f) = true
  cl : Cls G.K C
  sf : PySem.W.selfFirst G.K C = true
theorem back_of {X : Cx} {pins : List (Addr × Obj)} {σ : L2.St} {Q : VK} {u : Value} {s : Shared} (h : EP X pins σ Q u s) : PySem.W.CmpBack (EP X pins σ Q) u s := by
  obtain ⟨v, H, I, r, q⟩ := id h
  cases u <;> first | exact h | (cases v <;> first | (obtain ⟨t, e⟩ := r; cases e) | cases r)
section
variable {X : Cx} {W : WX} {j : Nat}
def oOwn2 (G : Gx) (j : Nat) (W : WX) (nm : Str) : O2 := fun x y σ H Q => ∃ (a b C dx dy : Addr) (fs gs : List (Str × V)) (k : Nat) (S : SpecD), x = .ref a ∧ y = .ref b ∧ H a = some (.ins C dx fs) ∧ H b = some (.ins C dy gs) ∧ k ≤ j ∧ Opr G k C nm 2 S ∧ spD 2 S [x, y] H Q (WE W σ)
theorem inst_of {pins : List (Addr × Obj)} {σ : L2.St} {H : Hp} {s : Shared} {a C dx : Addr} {fs : List (Str × V)} (I : Inv X pins σ H s) (e : H a = some (.ins C dx fs)) : ∃ od, PySem.W.InstAt s.heap a (PySem.W.instObj C dx) C od := by
  obtain ⟨mA, O, _⟩ := ins_get I.hok e
  obtain ⟨od, J, _⟩ := O.look
  exact ⟨_, J⟩
theorem os_own2 (hr : Room j X.A) (tk : L2N.Takes X W) {op : Operator} : OpS X (binaryOp op) (oOwn2 (Gx.of X) j W (PySem.dunder op.info.2)) := by
  intro pins s σ H x y u v Q I rx ry h
  obtain ⟨a, b, C, dx, dy, fs, gs, k, S, rfl, rfl, ha, hb, hk, O, q⟩ := h
  obtain rfl : u = Value.ref a := rx
  obtain rfl : v = Value.ref b := ry
  obtain ⟨f, ⟨⟨fd, ps, ds, F, bd, d⟩, cs⟩, h1, h2⟩ := O.ex
  obtain ⟨od, J⟩ := inst_of I ha
  obtain ⟨od', J'⟩ := inst_of I hb
  obtain ⟨m, fr⟩ := I.fr
  refine PySem.W.binop_K fr I.ok.mod.kin J J'.type O.sf h1 h2 ?_
  refine wpAny_mono (run_fnSD (E := WE W) (us := [.ref a, .ref b]) (vs := [.ref a, .ref b]) F (hr.mono hk) bd d (L2N.passAt tk σ) I (.cons rfl (.cons rfl .nil)) q) (fun r s' hq => back_of hq) fun _ _ z => z
def oOwn1 (G : Gx) (j : Nat) (W : WX) (nm : Str) : O1 := fun x σ H Q => ∃ (a C dx : Addr) (fs : List (Str × V)) (k : Nat) (S : SpecD), x = .ref a ∧ H a = some (.ins C dx fs) ∧ k ≤ j ∧ Opr G k C nm 1 S ∧ spD 1 S [x] H Q (WE W σ)
theorem us_own (hr : Room j X.A) (tk : L2N.Takes X W) : UnS X (unaryOp .USub) (oOwn1 (Gx.of X) j W "__neg__") := by
  intro pins s σ H x u Q I rx h
  obtain ⟨a, C, dx, fs, k, S, rfl, ha, hk, O, q⟩ := h
  obtain rfl : u = Value.ref a := rx
  obtain ⟨f, ⟨⟨fd, ps, ds, F, bd, d⟩, cs⟩, h1, h2⟩ := O.ex
  obtain ⟨od, J⟩ := inst_of I ha
  obtain ⟨m, fr⟩ := I.fr
  exact PySem.W.ksp_neg fr I.ok.mod.kin J h1 h2 (run_fnSD (E := WE W) (us := [.ref a]) (vs := [.ref a]) F (hr.mono hk) bd d (L2N.passAt tk σ) I (.cons rfl .nil) q)

/-! ### the operators as unions -/
def CDivX (_ j : Int) : Prop := j ≠ 0 ∧ j.natAbs.log2 < 9000
theorem op_fdivX : OpR X (binaryOp .FloorDiv) (rI CDivX fun i j => .int (i.fdiv j)) := opI fun i j _ _ _ _ _ hc q => PyProof.Rows.floordiv_int hc.1 q (.inl (PyProof.noPylong_of_log2 hc.2))
def CMulX (i j : Int) : Prop := i.natAbs.log2 + j.natAbs.log2 < 100000000
theorem CMulX.ok {i j : Int} (h : CMulX i j) : IntMulOk i j := by
  have b : ∀ x : Int, Builtin.Int.intBits x ≤ x.natAbs.log2 + 1 := fun x => by
    unfold Builtin.Int.intBits
    split <;> omega
  have h1 := b i
  have h2 := b j
  have h3 : i.natAbs.log2 + j.natAbs.log2 < 100000000 := h
  have e : bitsLine = 134217728 := by decide
  unfold IntMulOk
  intro z
  rw [Bool.and_eq_true] at z
  have z2 := z.2
  unfold Builtin.Int.intTooBig at z2
  have z3 := of_decide_eq_true z2
  rw [e] at z3
  omega
theorem op_mulX : OpR X (binaryOp .Mult) (rI CMulX fun i j => .int (i * j)) := opI fun _ _ _ _ _ _ _ hc q => PyProof.Rows.mul_int q hc.ok
def rStrAdd : R2 := fun x y H Q => ∃ i j, x = .str i ∧ y = .str j ∧ i.length + j.length ≤ sizeLine ∧ Q (.str (i ++ j)) H
def oAdd (G : Gx) (j : Nat) (W : WX) : O2 := fun x y s H Q => rI0 (fun i j => .int (i + j)) x y H Q ∨ (rStrAdd x y H Q ∨ (rCat x y H Q ∨ (rCatT G.K x y H Q ∨ oOwn2 G j W "__add__" x y s H Q)))
theorem os_add (hr : Room j X.A) (tk : L2N.Takes X W) : OpS X (binaryOp .Add) (oAdd (Gx.of X) j W) := (OpS.of op_add).or ((OpS.of op_add_str).or ((OpS.of op_cat).or ((OpS.of op_catT).or (os_own2 hr tk))))
def oSub (G : Gx) (j : Nat) (W : WX) : O2 := fun x y s H Q => rI0 (fun i j => .int (i - j)) x y H Q ∨ oOwn2 G j W "__sub__" x y s H Q
theorem os_sub (hr : Room j X.A) (tk : L2N.Takes X W) : OpS X (binaryOp .Sub) (oSub (Gx.of X) j W) := (OpS.of op_sub).or (os_own2 hr tk)
def oMul (G : Gx) (j : Nat) (W : WX) : O2 := fun x y s H Q => rI CMulX (fun i j => .int (i * j)) x y H Q ∨ (rRep x y H Q ∨ oOwn2 G j W "__mul__" x y s H Q)
theorem os_mul (hr : Room j X.A) (tk : L2N.Takes X W) : OpS X (binaryOp .Mult) (oMul (Gx.of X) j W) := (OpS.of op_mulX).or ((OpS.of op_rep).or (os_own2 hr tk))
def oFdiv : O2 := fun x y _ H Q => rI CDivX (fun i j => .int (i.fdiv j)) x y H Q
theorem os_fdiv : OpS X (binaryOp .FloorDiv) oFdiv := OpS.of op_fdivX
def oMod : O2 := fun x y _ H Q => rI (fun _ j => j ≠ 0) (fun i j => .int (i.fmod j)) x y H Q
theorem os_mod : OpS X (binaryOp .Mod) oMod := OpS.of op_modN
def oPow : O2 := fun x y _ H Q => rI CPow (fun i j => .int (i ^ j.toNat)) x y H Q
theorem os_pow : OpS X (binaryOp .Pow) oPow := OpS.of op_pow
def oNeg (G : Gx) (j : Nat) (W : WX) : O1 := fun x s H Q => rU (fun i => .int (-i)) x H Q ∨ oOwn1 G j W "__neg__" x s H Q
theorem us_neg (hr : Room j X.A) (tk : L2N.Takes X W) : UnS X (unaryOp .USub) (oNeg (Gx.of X) j W) := (UnS.of un_neg).or (us_own hr tk)
/-! comparisons -/
def oLt : O2 := fun x y _ H Q => rI0 (fun i j => .bl (decide (i < j))) x y H Q
def oLe : O2 := fun x y _ H Q => rI0 (fun i j => .bl (decide (i ≤ j))) x y H Q
def oGt : O2 := fun x y _ H Q => rI0 (fun i j => .bl (decide (j < i))) x y H Q
def oGe : O2 := fun x y _ H Q => rI0 (fun i j => .bl (decide (j ≤ i))) x y H Q
theorem os_lt : OpS X (compareOp .Lt) oLt := OpS.of op_lt
theorem os_le : OpS X (compareOp .LtE) oLe := OpS.of op_le
theorem os_gt : OpS X (compareOp .Gt) oGt := OpS.of op_gt
theorem os_ge : OpS X (compareOp .GtE) oGe := OpS.of op_ge
def rIsN' : R2 := fun x y H Q => y = .non ∧ Q (.bl (decide (x = .non))) H
def rNotN' : R2 := fun x y H Q => y = .non ∧ Q (.bl (!decide (x = .non))) H
def oIs : O2 := fun x y _ H Q => rIsN' x y H Q ∨ rIsB x y H Q
def oIsNot : O2 := fun x y _ H Q => rNotN' x y H Q ∨ rNotB x y H Q
theorem os_is : OpS X (compareOp .Is) oIs := OpS.or (OpS.of op_isN) (OpS.of op_isBl)
theorem os_isnot : OpS X (compareOp .IsNot) oIsNot := OpS.or (OpS.of op_notN) (OpS.of op_notBl)
def oEq (G : Gx) (j : Nat) (W : WX) : O2 := fun x y _ H Q => rEq x y H Q
def oNe (G : Gx) (j : Nat) (W : WX) : O2 := fun x y _ H Q => rNe x y H Q
theorem os_eq (hr : Room j X.A) (tk : L2N.Takes X W) : OpS X (compareOp .Eq) (oEq (Gx.of X) j W) := OpS.of op_eq
theorem os_ne (hr : Room j X.A) (tk : L2N.Takes X W) : OpS X (compareOp .NotEq) (oNe (Gx.of X) j W) := OpS.of op_ne
/-! .. within an except suite: numbers, texts alone -/
def oEqH : O2 := fun x y _ H Q => rEq x y H Q
def oNeH : O2 := fun x y _ H Q => rNe x y H Q
theorem os_eqH : OpS X (compareOp .Eq) oEqH := OpS.of op_eq
theorem os_neH : OpS X (compareOp .NotEq) oNeH := OpS.of op_ne
def oMulH : O2 := fun x y _ H Q => rI CMulX (fun i j => .int (i * j)) x y H Q
theorem os_mulH : OpS X (binaryOp .Mult) oMulH := OpS.of op_mulX
def oAddH : O2 := fun x y _ H Q => rI0 (fun i j => .int (i + j)) x y H Q
theorem os_addH : OpS X (binaryOp .Add) oAddH := OpS.of op_add
def oSubH : O2 := fun x y _ H Q => rI0 (fun i j => .int (i - j)) x y H Q
theorem os_subH : OpS X (binaryOp .Sub) oSubH := OpS.of op_sub
def oNegH : O1 := fun x _ H Q => rU (fun i => .int (-i)) x H Q
theorem us_negH : UnS X (unaryOp .USub) oNegH := UnS.of un_neg
end

/-! ### what they do to trees -/
section
variable {W : WX} {E : ET} {r : Rho} {m : Mu} {K : KT} {G : Gx} {j : Nat} {i k : Int} {te ta tb tc : TE} {t : TA} {o o' : O2} {o1 : O1} {oc : OC}
theorem w2_val {o : O2} {x y d : D} {vx vy v : V} (hx : ∀ M H w, Rep M H x w → w = vx) (hy : ∀ M H w, Rep M H y w → w = vy) (hd : ∀ M H, Rep M H d v) (ho : ∀ s H (Q : VK), Q v H → o vx vy s H Q) (k : K d m) : W2 W E o x y r m K := fun s H Q a b e z ra rb g => by
  rw [hx _ _ _ ra, hy _ _ _ rb]
  exact ho s H Q (g d m v H (Stp.refl _ _) e.mu (hd _ _) k)
theorem rint {M : Addr → Prop} {H : Hp} {i : Int} {w : V} (h : Rep M H (.int i) w) : w = .int i := by cases h; rfl
theorem rstr {M : Addr → Prop} {H : Hp} {i : Str} {w : V} (h : Rep M H (.str i) w) : w = .str i := by cases h; rfl
theorem rbl {M : Addr → Prop} {H : Hp} {i : Bool} {w : V} (h : Rep M H (.bl i) w) : w = .bl i := by cases h; rfl
theorem rnon {M : Addr → Prop} {H : Hp} {w : V} (h : Rep M H .non w) : w = .non := by cases h; rfl
theorem w2_add (h : K (.int (i + k)) m) : W2 W E (oAdd G j W) (.int i) (.int k) r m K := w2_val (fun _ _ _ => rint) (fun _ _ _ => rint) (fun _ _ => .int _) (fun _ _ _ q => .inl ⟨i, k, rfl, rfl, q⟩) h
theorem w2_sub (h : K (.int (i - k)) m) : W2 W E (oSub G j W) (.int i) (.int k) r m K := w2_val (fun _ _ _ => rint) (fun _ _ _ => rint) (fun _ _ => .int _) (fun _ _ _ q => .inl ⟨i, k, rfl, rfl, q⟩) h
theorem w2_mul (h : CMulX i k ∧ K (.int (i * k)) m) : W2 W E (oMul G j W) (.int i) (.int k) r m K := w2_val (fun _ _ _ => rint) (fun _ _ _ => rint) (fun _ _ => .int _) (fun _ _ _ q => .inl ⟨i, k, rfl, rfl, h.1, q⟩) h.2
theorem w2_fdiv (h : CDivX i k ∧ K (.int (i.fdiv k)) m) : W2 W E oFdiv (.int i) (.int k) r m K := w2_val (fun _ _ _ => rint) (fun _ _ _ => rint) (fun _ _ => .int _) (fun _ _ _ q => ⟨i, k, rfl, rfl, h.1, q⟩) h.2
theorem w2_mod (h : k ≠ 0 ∧ K (.int (i.fmod k)) m) : W2 W E oMod (.int i) (.int k) r m K := w2_val (fun _ _ _ => rint) (fun _ _ _ => rint) (fun _ _ => .int _) (fun _ _ _ q => ⟨i, k, rfl, rfl, h.1, q⟩) h.2
theorem w2_pow (h : CPow i k ∧ K (.int (i ^ k.toNat)) m) : W2 W E oPow (.int i) (.int k) r m K := w2_val (fun _ _ _ => rint) (fun _ _ _ => rint) (fun _ _ => .int _) (fun _ _ _ q => ⟨i, k, rfl, rfl, h.1, q⟩) h.2
theorem w2_lt (h : K (.bl (decide (i < k))) m) : W2 W E oLt (.int i) (.int k) r m K := w2_val (fun _ _ _ => rint) (fun _ _ _ => rint) (fun _ _ => .bl _) (fun _ _ _ q => ⟨i, k, rfl, rfl, q⟩) h
theorem w2_le (h : K (.bl (decide (i ≤ k))) m) : W2 W E oLe (.int i) (.int k) r m K := w2_val (fun _ _ _ => rint) (fun _ _ _ => rint) (fun _ _ => .bl _) (fun _ _ _ q => ⟨i, k, rfl, rfl, q⟩) h
theorem w2_gt (h : K (.bl (decide (k < i))) m) : W2 W E oGt (.int i) (.int k) r m K := w2_val (fun _ _ _ => rint) (fun _ _ _ => rint) (fun _ _ => .bl _) (fun _ _ _ q => ⟨i, k, rfl, rfl, q⟩) h
theorem w2_ge (h : K (.bl (decide (k ≤ i))) m) : W2 W E oGe (.int i) (.int k) r m K := w2_val (fun _ _ _ => rint) (fun _ _ _ => rint) (fun _ _ => .bl _) (fun _ _ _ q => ⟨i, k, rfl, rfl, q⟩) h
theorem w2_eqI (h : K (.bl (decide (i = k))) m) : W2 W E (oEq G j W) (.int i) (.int k) r m K := w2_val (fun _ _ _ => rint) (fun _ _ _ => rint) (fun _ _ => .bl _) (fun _ _ _ q => ⟨rfl, by rw [dec_int, ← Bool.beq_eq_decide_eq] at *; exact q⟩) h
theorem w2_neI (h : K (.bl (!decide (i = k))) m) : W2 W E (oNe G j W) (.int i) (.int k) r m K := w2_val (fun _ _ _ => rint) (fun _ _ _ => rint) (fun _ _ => .bl _) (fun _ _ _ q => ⟨rfl, by rw [dec_int, ← Bool.beq_eq_decide_eq] at *; exact q⟩) h
theorem w2_eqIH (h : K (.bl (decide (i = k))) m) : W2 W E oEqH (.int i) (.int k) r m K := w2_val (fun _ _ _ => rint) (fun _ _ _ => rint) (fun _ _ => .bl _) (fun _ _ _ q => ⟨rfl, by rw [dec_int, ← Bool.beq_eq_decide_eq] at *; exact q⟩) h
theorem w2_neIH (h : K (.bl (!decide (i = k))) m) : W2 W E oNeH (.int i) (.int k) r m K := w2_val (fun _ _ _ => rint) (fun _ _ _ => rint) (fun _ _ => .bl _) (fun _ _ _ q => ⟨rfl, by rw [dec_int, ← Bool.beq_eq_decide_eq] at *; exact q⟩) h
theorem w2_mulH (h : CMulX i k ∧ K (.int (i * k)) m) : W2 W E oMulH (.int i) (.int k) r m K := w2_val (fun _ _ _ => rint) (fun _ _ _ => rint) (fun _ _ => .int _) (fun _ _ _ q => ⟨i, k, rfl, rfl, h.1, q⟩) h.2
theorem w2_addH (h : K (.int (i + k)) m) : W2 W E oAddH (.int i) (.int k) r m K := w2_val (fun _ _ _ => rint) (fun _ _ _ => rint) (fun _ _ => .int _) (fun _ _ _ q => ⟨i, k, rfl, rfl, q⟩) h
theorem w2_subH (h : K (.int (i - k)) m) : W2 W E oSubH (.int i) (.int k) r m K := w2_val (fun _ _ _ => rint) (fun _ _ _ => rint) (fun _ _ => .int _) (fun _ _ _ q => ⟨i, k, rfl, rfl, q⟩) h
theorem w1_negH (h : K (.int (-i)) m) : W1 W E oNegH (.int i) r m K := fun s H Q v e z rv g => by
  cases rv
  exact ⟨i, rfl, g _ m _ H (Stp.refl _ _) e.mu (.int _) h⟩
def isNon : D → Bool
  | .non => true
  | _ => false
theorem rep_non {M : Addr → Prop} {H : Hp} {d : D} {v : V} (h : Rep M H d v) : decide (v = V.non) = isNon d := by
  cases h <;> rfl
theorem w2_isN {d : D} (h : K (.bl (isNon d)) m) : W2 W E oIs d .non r m K := fun s H Q a b e z ra rb g => by
  cases rb
  exact .inl ⟨rfl, g _ m _ H (Stp.refl _ _) e.mu (by rw [rep_non ra]; exact .bl _) h⟩
theorem w2_notN {d : D} (h : K (.bl (!isNon d)) m) : W2 W E oIsNot d .non r m K := fun s H Q a b e z ra rb g => by
  cases rb
  exact .inl ⟨rfl, g _ m _ H (Stp.refl _ _) e.mu (by rw [rep_non ra]; exact .bl _) h⟩
theorem w2_isB {a b : Bool} (h : K (.bl (decide (a = b))) m) : W2 W E oIs (.bl a) (.bl b) r m K := w2_val (fun _ _ _ => rbl) (fun _ _ _ => rbl) (fun _ _ => .bl _) (fun _ _ _ q => .inr ⟨a, b, rfl, rfl, q⟩) h
theorem w2_notB {a b : Bool} (h : K (.bl (!decide (a = b))) m) : W2 W E oIsNot (.bl a) (.bl b) r m K := w2_val (fun _ _ _ => rbl) (fun _ _ _ => rbl) (fun _ _ => .bl _) (fun _ _ _ q => .inr ⟨a, b, rfl, rfl, q⟩) h
theorem w1_neg (h : K (.int (-i)) m) : W1 W E (oNeg G j W) (.int i) r m K := fun s H Q v e z rv g => by
  cases rv
  exact .inl ⟨i, rfl, g _ m _ H (Stp.refl _ _) e.mu (.int _) h⟩
/-- the fields of an instance, fixed or mutable -/
inductive FldD : D → Mu → Addr → List Str → List D → Prop
  | fixed {m : Mu} {C : Addr} {ns : List Str} {ds : List D} : FldD (.ins C ns ds) m C ns ds
  | mutb {m : Mu} {C a : Addr} {ns : List Str} {ds : List D} (h : At m a (.ins C ns ds)) : FldD (.ref a) m C ns ds
theorem FldD.look {d : D} {m : Mu} {C : Addr} {ns : List Str} {ds : List D} {H : Hp} {v : V} (i : FldD d m C ns ds) (mu : MutR m H) (rp : Rep (dom m) H d v) : ∃ a dx gs, v = .ref a ∧ H a = some (.ins C dx gs) ∧ RepF (dom m) H ns ds gs := by
  cases i with
  | fixed =>
    cases rp with
    | ins mm h rf => exact ⟨_, _, _, rfl, h, rf⟩
  | mutb h =>
    cases rp
    have q := h.rep mu
    cases q with
    | ins h rf => exact ⟨_, _, _, rfl, h, rf⟩
theorem w2_own {d d' : D} {C : Addr} {ns ns' : List Str} {ds ds' : List D} {nm : Str} {k : Nat} {S : SpecD} (O : Opr G k C nm 2 S) (hk : k ≤ j) (i : FldD d m C ns ds) (i' : FldD d' m C ns' ds')
    (h : S [d, d'] m K fun x m' => E x r m') : W2 W E (oOwn2 G j W nm) d d' r m K := fun s H Q a b e z ra rb g => by
  obtain ⟨p, dx, gs, rfl, hp, _⟩ := i.look e.mu ra
  obtain ⟨p', dx', gs', rfl, hp', _⟩ := i'.look e.mu rb
  exact ⟨p, p', C, dx, dx', gs, gs', k, S, rfl, rfl, hp, hp', hk, O, spD_of rfl e z g (.cons ra (.cons rb .nil)) h fun _ _ q => q⟩
theorem w1_own {d : D} {C : Addr} {ns : List Str} {ds : List D} {nm : Str} {k : Nat} {S : SpecD} (O : Opr G k C nm 1 S) (hk : k ≤ j) (i : FldD d m C ns ds)
    (h : S [d] m K fun x m' => E x r m') : W1 W E (oOwn1 G j W nm) d r m K := fun s H Q a e z ra g => by
  obtain ⟨p, dx, gs, rfl, hp, _⟩ := i.look e.mu ra
  exact ⟨p, C, dx, gs, k, S, rfl, hp, hk, O, spD_of rfl e z g (.cons ra .nil) h fun _ _ q => q⟩
end
end DL
set_option Elab.async false
set_option linter.all false
set_option maxRecDepth 100000
/-! DL5: expressions, tests, statements, loops over trees. -/
namespace DL
open PySem PySem.Spec L2
open PyProof.Rows hiding St

section
variable {W : WX} {E : ET} {r : Rho} {m : Mu} {K : KT} {G : Gx} {j : Nat} {te ta tb tc : TE} {t u : TT} {a : TA} {o o' : O2} {o1 : O1} {oc : OC} {KB : Bool → Mu → Prop} {KA : List D → Mu → Prop}
/-! ### arguments, displays -/
theorem wa_nil (h : KA [] m) : Wa W E tNil r m KA := fun s H Q e z g => g [] m [] H (Stp.refl _ _) e.mu .nil h
theorem wa_cons (h : We W E te r m fun d m1 => Wa W E a r m1 fun ds m2 => KA (d :: ds) m2) : Wa W E (tCons te a) r m KA := fun s H Q e z g =>
  h s H _ e z fun d m1 v H1 s1 mu1 r1 q1 => q1 s H1 _ (e.step s1 mu1) (z.step s1) fun ds m2 vs H2 s2 mu2 r2 q2 => g _ m2 _ H2 (s1.trans s2) mu2 (.cons (r1.mono s2) r2) q2
theorem size_of {n : Nat} (h : Nat.ble n 1000 = true) : n ≤ sizeLine := Nat.le_trans (Nat.le_of_ble_eq_true h) (by decide)
theorem we_tup (h : Wa W E a r m fun ds m1 => Nat.ble ds.length 1000 = true ∧ K (.tup ds) m1) : We W E (tTup a) r m K := fun s H Q e z g =>
  h s H _ e z fun ds m1 vs H1 s1 mu1 r1 q1 => ⟨by rw [← r1.length]; exact size_of q1.1, fun p hp =>
    g _ m1 _ _ (s1.trans (Stp.new hp)) (mu1.new hp) (.tup (fun z => by obtain ⟨u, hu⟩ := mu1.there z; rw [hp] at hu; cases hu) (.inl upd_same) (r1.mono (Stp.new hp))) q1.2⟩
theorem we_lst (h : Wa W E a r m fun ds m1 => Nat.ble ds.length 1000 = true ∧ K (.lst ds) m1) : We W E (tLst a) r m K := fun s H Q e z g =>
  h s H _ e z fun ds m1 vs H1 s1 mu1 r1 q1 => ⟨by rw [← r1.length]; exact size_of q1.1, fun p hp =>
    g _ m1 _ _ (s1.trans (Stp.new hp)) (mu1.new hp) (.lst (fun z => by obtain ⟨u, hu⟩ := mu1.there z; rw [hp] at hu; cases hu) (.inl upd_same) (r1.mono (Stp.new hp))) q1.2⟩
/-- a list that will be changed -/
theorem we_lstM (h : Wa W E a r m fun ds m1 => Nat.ble ds.length 1000 = true ∧ ∀ p, ¬ dom m1 p → K (.ref p) ((p, .lst ds) :: m1)) : We W E (tLst a) r m K := fun s H Q e z g =>
  h s H _ e z fun ds m1 vs H1 s1 mu1 r1 q1 => ⟨by rw [← r1.length]; exact size_of q1.1, fun p hp =>
    g _ _ _ _ (s1.trans (Stp.newM (x := .lst ds) hp)) (mu1.newM hp (.lst upd_same (r1.mono (Stp.newM hp)))) (.ref p) (q1.2 p fun z => by obtain ⟨u, hu⟩ := mu1.there z; rw [hp] at hu; cases hu)⟩

/-! ### fields -/
theorem we_fld {f : Str} (h : We W E te r m fun d m1 => ∃ C ns ds x, FldD d m1 C ns ds ∧ Cls G.K C ∧ NoAttr G.K C f ∧ fix f ns ds = some x ∧ K x m1) : We W E (tFld G.K te f) r m K := fun s H Q e z g =>
  h s H _ e z fun d m1 v H1 s1 mu1 r1 q => by
    obtain ⟨C, ns, ds, x, i, c, n, hf, k⟩ := q
    obtain ⟨p, dx, gs, rfl, hp, rf⟩ := i.look mu1 r1
    obtain ⟨y, h1, h2⟩ := rf.look hf
    exact ⟨p, C, dx, gs, y, rfl, hp, c, n, h1, g x m1 y H1 s1 mu1 h2 k⟩

/-! ### subscripts -/
theorem atI_reps {M : Addr → Prop} {H : Hp} {ds : List D} {vs : List V} {i : Int} {d : D} (h : Reps M H ds vs) (e : atI ds i = some d) : ∃ v, atI vs i = some v ∧ Rep M H d v := by
  unfold atI at *
  rw [h.length] at e
  cases q : ixN vs.length i with
  | none => rw [q] at e; cases e
  | some k =>
    rw [q] at e
    exact h.get e
abbrev oIx (G : Gx) : O2 := fun x y _ H Q => rIx G.K x y H Q
theorem rd_l {K : PySem.W.Frag} {H : Hp} {a : Addr} {vs : List V} (h : Rd H a (.lst vs)) : SqL K H a vs := .inl h
theorem rd_t {K : PySem.W.Frag} {H : Hp} {a : Addr} {vs : List V} (h : Rd H a (.tup vs)) : SqT K H a vs := .inl h
theorem w2_ixT {ds : List D} {i : Int} {d : D} (h : atI ds i = some d ∧ K d m) : W2 W E (oIx G) (.tup ds) (.int i) r m K := fun s H Q x y e z rx ry g => by
  cases ry
  cases rx with
  | tup mm hh rs =>
    obtain ⟨v, h1, h2⟩ := atI_reps rs h.1
    exact .inr (.inl ⟨_, _, i, v, rfl, rfl, rd_t hh, h1, g d m v H (Stp.refl _ _) e.mu h2 h.2⟩)
theorem w2_ixL {ds : List D} {i : Int} {d : D} (h : atI ds i = some d ∧ K d m) : W2 W E (oIx G) (.lst ds) (.int i) r m K := fun s H Q x y e z rx ry g => by
  cases ry
  cases rx with
  | lst mm hh rs =>
    obtain ⟨v, h1, h2⟩ := atI_reps rs h.1
    exact .inl ⟨_, _, i, v, rfl, rfl, rd_l hh, h1, g d m v H (Stp.refl _ _) e.mu h2 h.2⟩
theorem w2_ixM {p : Addr} {ds : List D} {i : Int} {d : D} (hp : At m p (.lst ds)) (h : atI ds i = some d ∧ K d m) : W2 W E (oIx G) (.ref p) (.int i) r m K := fun s H Q x y e z rx ry g => by
  cases ry
  cases rx
  have q := hp.rep e.mu
  cases q with
  | lst hh rs =>
    obtain ⟨v, h1, h2⟩ := atI_reps rs h.1
    exact .inl ⟨_, _, i, v, rfl, rfl, SqL.of hh, h1, g d m v H (Stp.refl _ _) e.mu h2 h.2⟩
theorem we_op {rr : R2} (h : We W E ta r m fun x m1 => We W E tb r m1 fun y m2 => W2 W E (fun x y _ H Q => rr x y H Q) x y r m2 K) : We W E (tOp rr ta tb) r m K := we_2 h

/-! ### chains, truth -/
theorem we_3 (h : We W E ta r m fun x m1 => We W E tb r m1 fun y m2 => W2 W E o x y r m2 fun d m3 => ∃ b, d = .bl b ∧ (b = true → We W E tc r m3 fun w m4 => W2 W E o' y w r m4 K) ∧ (b = false → K (.bl false) m3)) : We W E (t3 o o' ta tb tc) r m K := fun s H Q e z g =>
  h s H _ e z fun x m1 v H1 s1 mu1 r1 h1 => h1 s H1 _ (e.step s1 mu1) (z.step s1) fun y m2 w H2 s2 mu2 r2 h2 => by
    have e2 := (e.step s1 mu1).step s2 mu2
    have z2 := (z.step s1).step s2
    refine h2 s H2 _ v w e2 z2 (r1.mono s2) r2 fun d m3 c H3 s3 mu3 r3 h3 => ?_
    obtain ⟨b, rfl, ht, hf⟩ := h3
    cases r3
    refine ⟨b, rfl, ?_⟩
    cases b with
    | true =>
      rw [if_pos rfl]
      exact ht rfl s H3 _ (e2.step s3 mu3) (z2.step s3) fun w' m4 cv H4 s4 mu4 r4 h4 =>
        h4 s H4 Q w cv ((e2.step s3 mu3).step s4 mu4) ((z2.step s3).step s4) ((r2.mono s3).mono s4) r4 ((((g.step s1).step s2).step s3).step s4)
    | false =>
      rw [if_neg Bool.false_ne_true]
      exact g _ m3 _ H3 ((s1.trans s2).trans s3) mu3 (.bl _) (hf rfl)
theorem wt_test (h : We W E te r m fun d m1 => ∃ b, d = .bl b ∧ KB b m1) : Wt W E (tTest te) r m KB := fun s H Q e z g =>
  h s H _ e z fun d m1 v H1 s1 mu1 r1 q => by
    obtain ⟨b, rfl, k⟩ := q
    cases r1
    exact ⟨b, rfl, g b m1 H1 s1 mu1 k⟩
theorem wt_B (h : We W E te r m fun d m1 => ∃ b, d = .bl b ∧ KB b m1) : Wt W E (tB te) r m KB := wt_test h
/-- the truth of a tree -/
inductive TruD : D → Mu → Bool → Prop
  | non {m : Mu} : TruD .non m false
  | bl {m : Mu} {b : Bool} : TruD (.bl b) m b
  | int {m : Mu} {i : Int} : TruD (.int i) m (i != 0)
  | tup {m : Mu} {xs : List D} : TruD (.tup xs) m (!xs.isEmpty)
  | lst {m : Mu} {xs : List D} : TruD (.lst xs) m (!xs.isEmpty)
  | mutb {m : Mu} {p : Addr} {xs : List D} (h : At m p (.lst xs)) : TruD (.ref p) m (!xs.isEmpty)
theorem reps_empty {M : Addr → Prop} {H : Hp} {ds : List D} {vs : List V} (h : Reps M H ds vs) : ds.isEmpty = vs.isEmpty := by cases h <;> rfl
theorem TruD.ok {d : D} {b : Bool} {H : Hp} {v : V} (h : TruD d m b) (mu : MutR m H) (rp : Rep (dom m) H d v) : TruV G.K v H b := by
  cases h with
  | non => cases rp; rfl
  | bl => cases rp; rfl
  | int => cases rp; rfl
  | tup =>
    cases rp with
    | tup mm hh rs => exact .inr (.inl ⟨_, rd_t hh, by rw [reps_empty rs]⟩)
  | lst =>
    cases rp with
    | lst mm hh rs => exact .inl ⟨_, rd_l hh, by rw [reps_empty rs]⟩
  | mutb h =>
    cases rp
    have q := h.rep mu
    cases q with
    | lst hh rs => exact .inl ⟨_, SqL.of hh, by rw [reps_empty rs]⟩
theorem wt_tr (h : We W E te r m fun d m1 => ∃ b, TruD d m1 b ∧ KB b m1) : Wt W E (tTr G.K te) r m KB := fun s H Q e z g =>
  h s H _ e z fun d m1 v H1 s1 mu1 r1 q => by
    obtain ⟨b, t, k⟩ := q
    exact ⟨b, t.ok mu1 r1, g b m1 H1 s1 mu1 k⟩
theorem wt_and (h : Wt W E t r m fun b m1 => (b = true → Wt W E u r m1 KB) ∧ (b = false → KB false m1)) : Wt W E (tAnd t u) r m KB := fun s H Q e z g =>
  h s H _ e z fun b m1 H1 s1 mu1 q => by
    cases b with
    | true => exact q.1 rfl s H1 Q (e.step s1 mu1) (z.step s1) fun b m2 H2 a c k => g b m2 H2 (s1.trans a) c k
    | false => exact g false m1 H1 s1 mu1 (q.2 rfl)
theorem wt_or (h : Wt W E t r m fun b m1 => (b = true → KB true m1) ∧ (b = false → Wt W E u r m1 KB)) : Wt W E (tOr t u) r m KB := fun s H Q e z g =>
  h s H _ e z fun b m1 H1 s1 mu1 q => by
    cases b with
    | true => exact g true m1 H1 s1 mu1 (q.1 rfl)
    | false => exact q.2 rfl s H1 Q (e.step s1 mu1) (z.step s1) fun b m2 H2 a c k => g b m2 H2 (s1.trans a) c k
theorem wt_not (h : Wt W E t r m fun b m1 => KB (!b) m1) : Wt W E (tNot t) r m KB := fun s H Q e z g =>
  h s H _ e z fun b m1 H1 s1 mu1 q => g (!b) m1 H1 s1 mu1 q
theorem we_andV (h : We W E ta r m fun d m1 => ∃ b, d = .bl b ∧ (b = true → We W E tb r m1 K) ∧ (b = false → K (.bl false) m1)) : We W E (tAndV ta tb) r m K := fun s H Q e z g =>
  h s H _ e z fun d m1 v H1 s1 mu1 r1 q => by
    obtain ⟨b, rfl, ht, hf⟩ := q
    cases r1
    refine ⟨b, rfl, ?_⟩
    cases b with
    | true =>
      rw [if_pos rfl]
      exact ht rfl s H1 Q (e.step s1 mu1) (z.step s1) (g.step s1)
    | false =>
      rw [if_neg Bool.false_ne_true]
      exact g _ m1 _ H1 s1 mu1 (.bl _) (hf rfl)
theorem we_orV (h : We W E ta r m fun d m1 => ∃ b, d = .bl b ∧ (b = true → K (.bl true) m1) ∧ (b = false → We W E tb r m1 K)) : We W E (tOrV ta tb) r m K := fun s H Q e z g =>
  h s H _ e z fun d m1 v H1 s1 mu1 r1 q => by
    obtain ⟨b, rfl, ht, hf⟩ := q
    cases r1
    refine ⟨b, rfl, ?_⟩
    cases b with
    | false =>
      rw [if_neg Bool.false_ne_true]
      exact hf rfl s H1 Q (e.step s1 mu1) (z.step s1) (g.step s1)
    | true =>
      rw [if_pos rfl]
      exact g _ m1 _ H1 s1 mu1 (.bl _) (ht rfl)
theorem we_notV (h : We W E te r m fun d m1 => ∃ b, d = .bl b ∧ K (.bl (!b)) m1) : We W E (tNotV te) r m K := fun s H Q e z g =>
  h s H _ e z fun d m1 v H1 s1 mu1 r1 q => by
    obtain ⟨b, rfl, k⟩ := q
    cases r1
    exact ⟨b, rfl, g _ m1 _ H1 s1 mu1 (.bl _) k⟩
theorem we_ifx (h : Wt W E t r m fun b m1 => (b = true → We W E ta r m1 K) ∧ (b = false → We W E tb r m1 K)) : We W E (tIf t ta tb) r m K := fun s H Q e z g =>
  h s H _ e z fun b m1 H1 s1 mu1 q => by
    cases b with
    | true => exact q.1 rfl s H1 Q (e.step s1 mu1) (z.step s1) (g.step s1)
    | false => exact q.2 rfl s H1 Q (e.step s1 mu1) (z.step s1) (g.step s1)

/-! ### calls of built-ins -/
def Wc (W : WX) (E : ET) (oc : OC) (ds : List D) (r : Rho) (m : Mu) (K : KT) : Prop := ∀ s H Q vs, EnvR r m s H → Rz W E m H → Reps (dom m) H ds vs → Go m H K Q → oc vs s H Q
theorem we_c2 (h : Wa W E a r m fun ds m1 => Wc W E oc ds r m1 K) : We W E (tC2 oc a) r m K := fun s H Q e z g =>
  h s H _ e z fun ds m1 vs H1 s1 mu1 r1 q => q s H1 Q vs (e.step s1 mu1) (z.step s1) r1 (g.step s1)
end

/-! ### statements -/
section
variable {W : WX} {E : ET} {r : Rho} {m : Mu} {P : DEnds} {G : Gx} {te to : TE} {tt : TT} {ts tu : TS} {i : Nat}
theorem ws_next (h : P.nx r m) : Ws W E tNext r m P := fun s H De e z g => g.nx r m s H (Stp.refl _ _) e h
theorem ws_brk (h : P.bk r m) : Ws W E tBreak r m P := fun s H De e z g => g.bk r m s H (Stp.refl _ _) e h
theorem ws_cont (h : P.ct r m) : Ws W E tCont r m P := fun s H De e z g => g.ct r m s H (Stp.refl _ _) e h
theorem ws_seq (h : Ws W E ts r m { P with nx := fun r' m' => Ws W E tu r' m' P }) : Ws W E (tSeq ts tu) r m P := fun s H De e z g =>
  h s H _ e z ⟨fun r' m' s' H' a b q => q s' H' De b (z.step a) (g.step a), g.rt, g.bk, g.ct⟩
theorem ws_ret (h : We W E te r m P.rt) : Ws W E (tRet te) r m P := fun s H De e z g => h s H _ e z fun d m' v H' a b c k => g.rt d m' v H' a b c k
theorem ws_retN (h : P.rt .non m) : Ws W E tRetN r m P := fun s H De e z g => g.rt .non m .non H (Stp.refl _ _) e.mu .non h
theorem ws_drop (h : We W E te r m fun _ m' => P.nx r m') : Ws W E (tDrop te) r m P := fun s H De e z g => h s H _ e z fun d m' v H' a b c k => g.nx r m' s H' a (e.step a b) k
theorem ws_if (h : Wt W E tt r m fun b m1 => (b = true → Ws W E ts r m1 P) ∧ (b = false → Ws W E tu r m1 P)) : Ws W E (tIfS tt ts tu) r m P := fun s H De e z g =>
  h s H _ e z fun b m1 H1 s1 mu1 q => by
    cases b with
    | true => exact q.1 rfl s H1 De (e.step s1 mu1) (z.step s1) (g.step s1)
    | false => exact q.2 rfl s H1 De (e.step s1 mu1) (z.step s1) (g.step s1)
/-- targets -/
def Wg (W : WX) (E : ET) (g : TG) (d : D) (r : Rho) (m : Mu) (N : Rho → Mu → Prop) : Prop := ∀ s H v Q, EnvR r m s H → Rz W E m H → Rep (dom m) H d v →
  (∀ r' m' s' H', Stp (dom m) H (dom m') H' → EnvR r' m' s' H' → N r' m' → Q s' H') → g v s H Q
def Wgs (W : WX) (E : ET) (g : TGs) (ds : List D) (r : Rho) (m : Mu) (N : Rho → Mu → Prop) : Prop := ∀ s H vs Q, EnvR r m s H → Rz W E m H → Reps (dom m) H ds vs →
  (∀ r' m' s' H', Stp (dom m) H (dom m') H' → EnvR r' m' s' H' → N r' m' → Q s' H') → g vs s H Q
variable {N : Rho → Mu → Prop}
theorem EnvR.put {s : L2.St} {H : Hp} {d : D} {v : V} (e : EnvR r m s H) (rd : Rep (dom m) H d v) : EnvR (r.set i (some d)) m (s.set i (some v)) H := ⟨e.env.set (.some rd) i, e.mu⟩
theorem wg_name {d : D} (h : N (r.set i (some d)) m) : Wg W E (gName i) d r m N := fun s H v Q e z rd g => g _ m _ H (Stp.refl _ _) (e.put rd) h
theorem wgs_nil (h : N r m) : Wgs W E gNil [] r m N := fun s H vs Q e z rd g => by
  cases rd
  exact ⟨rfl, g r m s H (Stp.refl _ _) e h⟩
theorem wgs_cons {g1 : TG} {gs : TGs} {d : D} {ds : List D} (h : Wg W E g1 d r m fun r' m' => Wgs W E gs ds r' m' N) : Wgs W E (gCons g1 gs) (d :: ds) r m N := fun s H vs Q e z rd g => by
  cases rd with
  | cons r1 rt =>
    exact ⟨_, _, rfl, h s H _ _ e z r1 fun r' m' s' H' a b q => q s' H' _ Q b (z.step a) (rt.mono a) fun r2 m2 s2 H2 a2 b2 q2 => g r2 m2 s2 H2 (a.trans a2) b2 q2⟩
theorem wg_tup {gs : TGs} {n : Nat} {ds : List D} (hn : ds.length = n) (h : Wgs W E gs ds r m N) : Wg W E (gTup G.K n gs) (.tup ds) r m N := fun s H v Q e z rd g => by
  cases rd with
  | tup mm hh rs => exact ⟨_, _, rfl, rd_t hh, by rw [← rs.length, hn], h s H _ Q e z rs g⟩
theorem ixN_reps {n k : Nat} {i : Int} (h : ixN n i = some k) : k < n := by
  unfold ixN at h
  split at h
  · split at h
    · cases h; omega
    · cases h
  · split at h
    · cases h; omega
    · cases h
theorem wg_subM {ti : TE} {d : D} (h : We W E to r m fun o m1 => We W E ti r m1 fun i m2 => ∃ p xs k j m3, o = .ref p ∧ i = .int k ∧ At m2 p (.lst xs) ∧ ixN xs.length k = some j ∧ Put m2 p (.lst (xs.set j d)) m3 ∧ N r m3) : Wg W E (gSub to ti rSetL) d r m N := fun s H v Q e z rd g =>
  h s H _ e z fun o m1 vo H1 s1 mu1 r1 q1 => q1 s H1 _ (e.step s1 mu1) (z.step s1) fun i m2 vi H2 s2 mu2 r2 q2 => by
    obtain ⟨p, xs, k, j, m3, rfl, rfl, ha, hj, hp, hn⟩ := q2
    cases r1
    cases r2
    have q := ha.rep mu2
    cases q with
    | lst hh rs =>
      have rd2 := (rd.mono s1).mono s2
      refine ⟨p, _, k, j, rfl, rfl, hh, by rw [← rs.length]; exact hj, ?_⟩
      have st : ∀ o, Stp (dom m2) H2 (dom m3) (upd H2 p o) := fun o => hp.stp
      exact g r m3 s _ ((s1.trans s2).trans (st _)) (((e.step s1 mu1).step s2 mu2).step (st _) (hp.mut mu2 (.lst upd_same ((rs.set rd2 j).mono (st _))))) hn
theorem ws_asg {g : TG} (h : We W E te r m fun d m1 => Wg W E g d r m1 P.nx) : Ws W E (tAsg te g) r m P := fun s H De e z gg =>
  h s H _ e z fun d m1 v H1 s1 mu1 r1 q => q s H1 v De.nx (e.step s1 mu1) (z.step s1) r1 fun r' m' s' H' a b k => gg.nx r' m' s' H' (s1.trans a) b k
theorem ws_par {j : Nat} {a : TA} (h : Wa W E a r m fun ds m1 => ∃ x y, ds = [x, y] ∧ P.nx ((r.set i (some x)).set j (some y)) m1) : Ws W E (tPar i j a) r m P := fun s H De e z g =>
  h s H _ e z fun ds m1 vs H1 s1 mu1 r1 q => by
    obtain ⟨x, y, rfl, k⟩ := q
    cases r1 with
    | cons ra t =>
      cases t with
      | cons rb t =>
        cases t
        exact ⟨_, _, rfl, g.nx _ m1 _ H1 s1 (((e.step s1 mu1).put ra).put rb) k⟩
theorem ws_par3 {j l : Nat} {a : TA} (h : Wa W E a r m fun ds m1 => ∃ x y w, ds = [x, y, w] ∧ P.nx (((r.set i (some x)).set j (some y)).set l (some w)) m1) : Ws W E (tPar3 i j l a) r m P := fun s H De e z g =>
  h s H _ e z fun ds m1 vs H1 s1 mu1 r1 q => by
    obtain ⟨x, y, w, rfl, k⟩ := q
    cases r1 with
    | cons ra t =>
      cases t with
      | cons rb t =>
        cases t with
        | cons rc t =>
          cases t
          exact ⟨_, _, _, rfl, g.nx _ m1 _ H1 s1 ((((e.step s1 mu1).put ra).put rb).put rc) k⟩
/-- self.f = e, a new field -/
theorem putF_new {f : Str} {y : V} : ∀ {fs : List (Str × V)}, f ∉ fs.map (·.1) → putF f y fs = fs ++ [(f, y)]
  | [], _ => rfl
  | (g, v) :: fs, h => by
    have ne : ¬ g = f := fun e => h (by simp [e])
    show (if g = f then _ else _) = _
    rw [if_neg ne, putF_new (fun z => h (by simp [z]))]
    rfl
theorem RepF.snoc {M : Addr → Prop} {H : Hp} {f : Str} {x : D} {y : V} (q : Rep M H x y) : ∀ {n : List Str} {d : List D} {v : List (Str × V)}, RepF M H n d v → RepF M H (n ++ [f]) (d ++ [x]) (v ++ [(f, y)])
  | _, _, _, .nil => .cons q .nil
  | _, _, _, .cons r t => .cons r (RepF.snoc q t)
theorem RepF.lens {M : Addr → Prop} {H : Hp} {n : List Str} {d : List D} {v : List (Str × V)} (h : RepF M H n d v) : v.length = n.length := by rw [← h.names, List.length_map]
theorem ws_fldN {f : Str} (h : We W E te r m fun d m1 => We W E to r m1 fun o m2 => ∃ p C ns ds m3, o = .ref p ∧ At m2 p (.ins C ns ds) ∧ Cls G.K C ∧ NoAttr G.K C f ∧ ns.contains f = false ∧ Nat.ble ns.length 900 = true ∧ Put m2 p (.ins C (ns ++ [f]) (ds ++ [d])) m3 ∧ P.nx r m3) : Ws W E (sFld G.K to te f) r m P := fun s H De e z g =>
  h s H _ e z fun d m1 v H1 s1 mu1 r1 q1 => q1 s H1 _ (e.step s1 mu1) (z.step s1) fun o m2 vo H2 s2 mu2 r2 q2 => by
    obtain ⟨p, C, ns, ds, m3, rfl, ha, hc, hn, hf, hl, hp, k⟩ := q2
    cases r2
    have q := ha.rep mu2
    cases q with
    | ins hh rf =>
      have st : ∀ o, Stp (dom m2) H2 (dom m3) (upd H2 p o) := fun o => hp.stp
      have nf : f ∉ List.map (fun q : Str × V => q.1) _ := fun zz => by
        rw [rf.names] at zz
        rw [List.contains_iff_mem.mpr zz] at hf
        cases hf
      refine ⟨p, C, _, _, rfl, hh, hc, hn, by rw [rf.lens]; have := Nat.le_of_ble_eq_true hl; omega, ?_⟩
      rw [putF_new nf]
      exact g.nx r m3 s _ ((s1.trans s2).trans (st _)) (((e.step s1 mu1).step s2 mu2).step (st _) (hp.mut mu2 (.ins upd_same ((rf.snoc (r1.mono s2)).mono (st _))))) k
end

/-! ### loops -/
section
variable {W : WX} {E : ET} {r : Rho} {m : Mu} {P : DEnds} {G : Gx} {te : TE} {ta : TA} {tt : TT} {tb : TS} {i : Nat}
theorem goL {m0 : Mu} {H0 : Hp} {De : Ends} {nx : L2.St → Hp → Prop} {Nx : Rho → Mu → Prop} (g : GoS m0 H0 P De) {H : Hp} {m : Mu} (st : Stp (dom m0) H0 (dom m) H)
    (h : ∀ r' m' s' H', Stp (dom m) H (dom m') H' → EnvR r' m' s' H' → Nx r' m' → nx s' H') : GoS m H { nx := Nx, rt := P.rt, bk := P.nx, ct := Nx } { De with nx := nx, ct := nx, bk := De.nx } :=
  ⟨h, fun d m' v H' a b c q => g.rt d m' v H' (st.trans a) b c q, fun r' m' s' H' a b q => g.nx r' m' s' H' (st.trans a) b q, h⟩
theorem ws_range1 (h : Wa W E ta r m fun ds m1 => ∃ (j : Int) (I : Nat → Rho → Mu → Prop), ds = [.int j] ∧ (-(2 ^ 62) ≤ j ∧ j < 2 ^ 62) ∧ I 0 r m1 ∧
    (∀ k r' m', k < j.toNat → I k r' m' → Ws W E tb (r'.set i (some (.int (k : Int)))) m' { nx := I (k + 1), rt := P.rt, bk := P.nx, ct := I (k + 1) }) ∧ (∀ r' m', I j.toNat r' m' → P.nx r' m')) :
    Ws W E (tFor (iRng1 ta) (gName i) tb) r m P := fun s H De e z g =>
  h s H _ e z fun ds m1 vs H1 s1 mu1 r1 q => by
    obtain ⟨j, I, rfl, ⟨b1, b2⟩, h0, hs, hd⟩ := q
    cases r1 with
    | cons ra t =>
      cases t
      cases ra
      refine ⟨j, rfl, b1, b2, ?_⟩
      refine for_range (lo := 0) (n := j.toNat) (fun k s' H' => ∃ r' m', Stp (dom m) H (dom m') H' ∧ EnvR r' m' s' H' ∧ I k r' m') ⟨r, m1, s1, e.step s1 mu1, h0⟩ (fun k s' H' hk ⟨r', m', st, e', hi⟩ => ?_) (fun s' H' ⟨r', m', st, e', hi⟩ => g.nx r' m' s' H' st e' (hd r' m' hi))
      have q := hs k r' m' hk hi
      show tb _ (s'.set i (some (.int (0 + (k : Int))))) H'
      rw [Int.zero_add]
      exact q _ H' _ (e'.put (.int _)) (z.step st) (goL g st fun r2 m2 s2 H2 a b c => ⟨r2, m2, st.trans a, b, c⟩)
theorem ws_range2 (h : Wa W E ta r m fun ds m1 => ∃ (l j : Int) (I : Nat → Rho → Mu → Prop), ds = [.int l, .int j] ∧ (-(2 ^ 62) ≤ l ∧ l < 2 ^ 62 ∧ -(2 ^ 62) ≤ j ∧ j < 2 ^ 62) ∧ I 0 r m1 ∧
    (∀ k r' m', k < (j - l).toNat → I k r' m' → Ws W E tb (r'.set i (some (.int (l + (k : Int))))) m' { nx := I (k + 1), rt := P.rt, bk := P.nx, ct := I (k + 1) }) ∧ (∀ r' m', I (j - l).toNat r' m' → P.nx r' m')) :
    Ws W E (tFor (iRng2 ta) (gName i) tb) r m P := fun s H De e z g =>
  h s H _ e z fun ds m1 vs H1 s1 mu1 r1 q => by
    obtain ⟨l, j, I, rfl, b1, h0, hs, hd⟩ := q
    cases r1 with
    | cons ra t =>
      cases t with
      | cons rb t =>
        cases t
        cases ra
        cases rb
        refine ⟨l, j, rfl, b1, ?_⟩
        refine for_range (lo := l) (n := (j - l).toNat) (fun k s' H' => ∃ r' m', Stp (dom m) H (dom m') H' ∧ EnvR r' m' s' H' ∧ I k r' m') ⟨r, m1, s1, e.step s1 mu1, h0⟩ (fun k s' H' hk ⟨r', m', st, e', hi⟩ => ?_) (fun s' H' ⟨r', m', st, e', hi⟩ => g.nx r' m' s' H' st e' (hd r' m' hi))
        exact hs k r' m' hk hi _ H' _ (e'.put (.int _)) (z.step st) (goL g st fun r2 m2 s2 H2 a b c => ⟨r2, m2, st.trans a, b, c⟩)
/-- for over a list or a tuple -/
def iSeq (K : PySem.W.Frag) (tl : TE) : TI := fun σ H R => tl σ H fun x H1 => (∃ a, x = .ref a ∧ (∃ xs, SqL K H1 a xs) ∧ R (Itl K a) H1) ∨ (∃ a, x = .ref a ∧ (∃ xs, SqT K H1 a xs) ∧ R (Itt K a) H1)
theorem pi_seq {X : Cx} {tg l : Expr} {tl : TE} (hl : PE X l tl) : PI X tg l (iSeq X.K tl) := by
  refine ⟨fun pins s σ H R I h => ?_⟩
  refine thn (hl.run pins s σ H _ I h) fun v s1 ⟨x, H1, I1, r1, q1⟩ => ?_
  rcases q1 with ⟨a, e, ⟨xs, hq⟩, q⟩ | ⟨a, e, ⟨xs, hq⟩, q⟩
  · subst e
    cases r1
    obtain ⟨its, rv, p, hz⟩ := I1.list hq
    refine wpAny_pyIter_list p.isList ?_
    refine ⟨s1.heap.objs.size, [s1.heap.objs.size], _, _, H1, rfl, I1.kept (t' := s1.toks) fun b o e => Heap.get?_push_of_some _ e, turn_list a _, ⟨_, Heap.get?_push_size _ rfl, rfl, rfl⟩, fun b hb => ?_, q⟩
    have e : b = s1.heap.objs.size := by simpa using hb
    subst e
    exact I1.fpOk (Nat.le_refl _) (I1.hok.fresh (Nat.le_refl _))
  · subst e
    cases r1
    obtain ⟨its, rv, p, hz⟩ := I1.tuple hq
    refine wpAny_pyIter_tuple (show s1.heap.IsTuple a its.toArray from p) ?_
    refine ⟨s1.heap.objs.size, [s1.heap.objs.size], _, _, H1, rfl, I1.kept (t' := s1.toks) fun b o e => Heap.get?_push_of_some _ e, turn_tuple a _, ⟨_, Heap.get?_push_size _ rfl, rfl, rfl⟩, fun b hb => ?_, q⟩
    have e : b = s1.heap.objs.size := by simpa using hb
    subst e
    exact I1.fpOk (Nat.le_refl _) (I1.hok.fresh (Nat.le_refl _))
inductive SeqD : D → List D → Prop
  | lst {xs : List D} : SeqD (.lst xs) xs
  | tup {xs : List D} : SeqD (.tup xs) xs
/-- by an invariant -/
theorem ws_seqI {g : TG} (h : We W E te r m fun d m1 => ∃ (xs : List D) (I : Nat → Rho → Mu → Prop), SeqD d xs ∧ I 0 r m1 ∧
    (∀ k x r' m', xs[k]? = some x → I k r' m' → Wg W E g x r' m' fun r2 m2 => Ws W E tb r2 m2 { nx := I (k + 1), rt := P.rt, bk := P.nx, ct := I (k + 1) }) ∧ (∀ r' m', I xs.length r' m' → P.nx r' m')) :
    Ws W E (tFor (iSeq G.K te) g tb) r m P := fun s H De e z gg =>
  h s H _ e z fun d m1 v H1 s1 mu1 r1 q => by
    obtain ⟨xs, I, sd, h0, hs, hd⟩ := q
    cases sd with
    | lst =>
      cases r1 with
      | @lst a _ vs mm hh rs =>
        refine .inl ⟨a, rfl, ⟨_, rd_l hh⟩, ?_⟩
        refine for_list (xs := vs) (fun k s' H' => ∃ r' m', Stp (dom m1) H1 (dom m') H' ∧ EnvR r' m' s' H' ∧ I k r' m') ⟨r, m1, Stp.refl _ _, e.step s1 mu1, h0⟩ (fun k s' H' _ ⟨r', m', st1, e', hi⟩ => rd_l (st1.rd mm hh).1)
          (fun k x s' H' hx ⟨r', m', st1, e', hi⟩ => ?_) (fun s' H' ⟨r', m', st1, e', hi⟩ => gg.nx r' m' s' H' (s1.trans st1) e' (hd r' m' (by rw [rs.length]; exact hi)))
        obtain ⟨d, hd1, hd2⟩ := rs.getV hx
        refine hs k d r' m' hd1 hi s' H' x _ e' (z.step (s1.trans st1)) (hd2.mono st1) fun r2 m2 s2 H2 st2 e2 q2 => ?_
        exact q2 s2 H2 _ e2 (z.step (s1.trans (st1.trans st2))) (goL gg (s1.trans (st1.trans st2)) fun r3 m3 s3 H3 a3 b3 c3 => ⟨r3, m3, st1.trans (st2.trans a3), b3, c3⟩)
    | tup =>
      cases r1 with
      | @tup a _ vs mm hh rs =>
        refine .inr ⟨a, rfl, ⟨_, rd_t hh⟩, ?_⟩
        refine for_tup (xs := vs) (fun k s' H' => ∃ r' m', Stp (dom m1) H1 (dom m') H' ∧ EnvR r' m' s' H' ∧ I k r' m') ⟨r, m1, Stp.refl _ _, e.step s1 mu1, h0⟩ (fun k s' H' _ ⟨r', m', st1, e', hi⟩ => rd_t (st1.rd mm hh).1)
          (fun k x s' H' hx ⟨r', m', st1, e', hi⟩ => ?_) (fun s' H' ⟨r', m', st1, e', hi⟩ => gg.nx r' m' s' H' (s1.trans st1) e' (hd r' m' (by rw [rs.length]; exact hi)))
        obtain ⟨d, hd1, hd2⟩ := rs.getV hx
        refine hs k d r' m' hd1 hi s' H' x _ e' (z.step (s1.trans st1)) (hd2.mono st1) fun r2 m2 s2 H2 st2 e2 q2 => ?_
        exact q2 s2 H2 _ e2 (z.step (s1.trans (st1.trans st2))) (goL gg (s1.trans (st1.trans st2)) fun r3 m3 s3 H3 a3 b3 c3 => ⟨r3, m3, st1.trans (st2.trans a3), b3, c3⟩)
/-- turn by turn, the target a name -/
def ForL (W : WX) (E : ET) (i : Nat) (tb : TS) (P : DEnds) : List D → Rho → Mu → Prop
  | [], r, m => P.nx r m
  | x :: xs, r, m => Ws W E tb (r.set i (some x)) m { nx := ForL W E i tb P xs, rt := P.rt, bk := P.nx, ct := ForL W E i tb P xs }
theorem ws_seqU (h : We W E te r m fun d m1 => ∃ xs, SeqD d xs ∧ ForL W E i tb P xs r m1) : Ws W E (tFor (iSeq G.K te) (gName i) tb) r m P :=
  ws_seqI (h.imp fun d m1 ⟨xs, sd, q⟩ => ⟨xs, fun k r' m' => ForL W E i tb P (xs.drop k) r' m', sd, (show ForL W E i tb P (xs.drop 0) r m1 by rw [List.drop_zero]; exact q), fun k x r' m' hx hi => by
    obtain ⟨hk, hx'⟩ := List.getElem?_eq_some_iff.mp hx
    have hi2 : ForL W E i tb P (xs.drop k) r' m' := hi
    rw [List.drop_eq_getElem_cons hk, hx'] at hi2
    exact wg_name hi2, fun r' m' hi => by
    have hi2 : ForL W E i tb P (xs.drop xs.length) r' m' := hi
    rw [List.drop_length] at hi2
    exact hi2⟩)
theorem forL_nil {r : Rho} {m : Mu} (h : P.nx r m) : ForL W E i tb P [] r m := h
theorem forL_cons {x : D} {xs : List D} {r : Rho} {m : Mu} (h : Ws W E tb (r.set i (some x)) m { nx := ForL W E i tb P xs, rt := P.rt, bk := P.nx, ct := ForL W E i tb P xs }) : ForL W E i tb P (x :: xs) r m := h
/-- while, by a word and a measure -/
theorem ws_while (I : Rho → Mu → Prop) (f : Rho → Mu → Nat) (h0 : I r m) (h : ∀ r m, I r m → Wt W E tt r m fun b m1 => (b = true → Ws W E tb r m1 { nx := fun r' m' => I r' m' ∧ f r' m' < f r m, rt := P.rt, bk := P.nx, ct := fun r' m' => I r' m' ∧ f r' m' < f r m }) ∧ (b = false → P.nx r m1)) :
    Ws W E (tWhile tt tb) r m P := fun s H De e z g => by
  refine ⟨fun n s' H' => ∃ r' m', n = f r' m' ∧ Stp (dom m) H (dom m') H' ∧ EnvR r' m' s' H' ∧ I r' m', ⟨_, r, m, rfl, Stp.refl _ _, e, h0⟩, ?_⟩
  rintro n s' H' ⟨r', m', rfl, st, e', hi⟩
  refine h r' m' hi s' H' _ e' (z.step st) fun b m1 H1 s1 mu1 q => ?_
  cases b with
  | true =>
    rw [if_pos rfl]
    refine ⟨fun s2 H2 => ∃ r2 m2, f r2 m2 < f r' m' ∧ Stp (dom m) H (dom m2) H2 ∧ EnvR r2 m2 s2 H2 ∧ I r2 m2, fun s2 H2 ⟨r2, m2, l, a, b, c⟩ => ⟨_, l, r2, m2, rfl, a, b, c⟩, ?_⟩
    exact q.1 rfl s' H1 _ (e'.step s1 mu1) (z.step (st.trans s1)) (goL g (st.trans s1) fun r2 m2 s2 H2 a b c => ⟨r2, m2, c.2, st.trans (s1.trans a), b, c.1⟩)
  | false =>
    rw [if_neg Bool.false_ne_true]
    exact g.nx r' m1 s' H1 (st.trans s1) (e'.step s1 mu1) (q.2 rfl)
end
end DL
set_option Elab.async false
set_option linter.all false
set_option maxRecDepth 100000
/-! DL6: built-in functions, comprehensions, lists changed, errors raised and caught. -/
namespace DL
open PySem PySem.Spec L2
open PyProof.Rows hiding St

/-! ### built-in functions: the readings -/
section
variable {X : Cx} {W : WX} {j : Nat}
def rAbsI : List V → Hp → VK → Prop := fun xs H Q => ∃ i, xs = [.int i] ∧ Q (.int (if i < 0 then -i else i)) H
def cAbs : OC := fun xs _ H Q => rAbsI xs H Q
theorem cs_abs : CallS X (.builtin "abs") cAbs := CallS.of call_abs
def rInt1 : List V → Hp → VK → Prop := fun xs H Q => (∃ i, xs = [.int i] ∧ Q (.int i) H) ∨ ∃ k, xs = [.bl k] ∧ Q (.int (if k then 1 else 0)) H
def cInt : OC := fun xs _ H Q => rInt1 xs H Q
theorem cs_int : CallS X (.type "int") cInt := CallS.of call_int1
def rLenD (K : PySem.W.Frag) : List V → Hp → VK → Prop := fun xs H Q => ∃ x n, xs = [x] ∧ LenV K x H n ∧ Q (.int (n : Nat)) H
def cLen (G : Gx) : OC := fun xs _ H Q => rLenD G.K xs H Q
theorem cs_len : CallS X (.builtin "len") (cLen (Gx.of X)) := CallS.of call_len
def rMin2 : List V → Hp → VK → Prop := fun xs H Q => ∃ i j, xs = [.int i, .int j] ∧ Q (.int (if j < i then j else i)) H
def rMax2 : List V → Hp → VK → Prop := fun xs H Q => ∃ i j, xs = [.int i, .int j] ∧ Q (.int (if j > i then j else i)) H
def cMin : OC := fun xs _ H Q => rMin2 xs H Q
def cMax : OC := fun xs _ H Q => rMax2 xs H Q
theorem cs_min (hc : X.calm = true) : CallS X (.builtin "min") cMin := CallS.of (call_min2 hc)
theorem cs_max (hc : X.calm = true) : CallS X (.builtin "max") cMax := CallS.of (call_max2 hc)
def cGcd : OC := fun xs _ H Q => rGcd xs H Q
theorem cs_gcd : CallS X (.builtin "math.gcd") cGcd := CallS.of cr_gcd
def cIsi (G : Gx) : OC := fun xs _ H Q => rIsi G.K xs H Q
theorem cs_isi : CallS X (.builtin "isinstance") (cIsi (Gx.of X)) := CallS.of call_isi
end

/-! ### what they do -/
section
variable {W : WX} {E : ET} {r : Rho} {m : Mu} {K : KT} {G : Gx} {j : Nat}
theorem wc_abs {i : Int} (h : K (.int (i.natAbs : Int)) m) : Wc W E cAbs [.int i] r m K := fun s H Q vs e z rs g => by
  cases rs with
  | cons a t =>
    cases t; cases a
    refine ⟨i, rfl, ?_⟩
    have q : (if i < 0 then -i else i) = (i.natAbs : Int) := by split <;> omega
    rw [q]
    exact g _ m _ H (Stp.refl _ _) e.mu (.int _) h
theorem wc_int {i : Int} (h : K (.int i) m) : Wc W E cInt [.int i] r m K := fun s H Q vs e z rs g => by
  cases rs with
  | cons a t =>
    cases t; cases a
    exact .inl ⟨i, rfl, g _ m _ H (Stp.refl _ _) e.mu (.int _) h⟩
theorem wc_intB {b : Bool} (h : K (.int (if b then 1 else 0)) m) : Wc W E cInt [.bl b] r m K := fun s H Q vs e z rs g => by
  cases rs with
  | cons a t =>
    cases t; cases a
    exact .inr ⟨b, rfl, g _ m _ H (Stp.refl _ _) e.mu (.int _) h⟩
inductive LenD : D → Mu → Nat → Prop
  | tup {m : Mu} {xs : List D} : LenD (.tup xs) m xs.length
  | lst {m : Mu} {xs : List D} : LenD (.lst xs) m xs.length
  | mutb {m : Mu} {p : Addr} {xs : List D} (h : At m p (.lst xs)) : LenD (.ref p) m xs.length
theorem wc_len {d : D} {n : Nat} (l : LenD d m n) (h : K (.int (n : Int)) m) : Wc W E (cLen G) [d] r m K := fun s H Q vs e z rs g => by
  cases rs with
  | cons a t =>
    cases t
    refine ⟨_, n, rfl, ?_, g _ m _ H (Stp.refl _ _) e.mu (.int _) h⟩
    cases l with
    | tup => cases a with | tup mm hh rs => exact .inr ⟨_, rd_t hh, rs.length⟩
    | lst => cases a with | lst mm hh rs => exact .inl ⟨_, rd_l hh, rs.length⟩
    | mutb hm =>
      cases a
      have q := hm.rep e.mu
      cases q with
      | lst hh rs => exact .inl ⟨_, SqL.of hh, rs.length⟩
theorem wc_min {i k : Int} (h : K (.int (min i k)) m) : Wc W E cMin [.int i, .int k] r m K := fun s H Q vs e z rs g => by
  cases rs with
  | cons a t =>
    cases t with
    | cons b t =>
      cases t; cases a; cases b
      refine ⟨i, k, rfl, ?_⟩
      have q : (if k < i then k else i) = min i k := by split <;> omega
      rw [q]
      exact g _ m _ H (Stp.refl _ _) e.mu (.int _) h
theorem wc_max {i k : Int} (h : K (.int (max i k)) m) : Wc W E cMax [.int i, .int k] r m K := fun s H Q vs e z rs g => by
  cases rs with
  | cons a t =>
    cases t with
    | cons b t =>
      cases t; cases a; cases b
      refine ⟨i, k, rfl, ?_⟩
      have q : (if k > i then k else i) = max i k := by split <;> omega
      rw [q]
      exact g _ m _ H (Stp.refl _ _) e.mu (.int _) h
theorem wc_gcd {i k : Int} (h : K (.int ((Nat.gcd i.natAbs k.natAbs : Nat) : Int)) m) : Wc W E cGcd [.int i, .int k] r m K := fun s H Q vs e z rs g => by
  cases rs with
  | cons a t =>
    cases t with
    | cons b t =>
      cases t; cases a; cases b
      exact ⟨i, k, rfl, g _ m _ H (Stp.refl _ _) e.mu (.int _) h⟩
/-- the class of a tree, as isinstance asks -/
structure InsK (K : PySem.W.Frag) (C : Addr) : Prop where
  cl : Cls K C
  ha : PySem.W.findIn K (.ref C) "__class__" = some (some (.builtin "object.__class__"))
  hn : PySem.W.specialIn K (.builtin "object.__class__") "__get__" = some (some (.builtin "getset_descriptor.__get__"))
  ht : PySem.W.takesIn K (.builtin "object.__class__") = some true
  hm : PySem.W.mroIn K C (.type "object") = some true
inductive TyD (G : Gx) : D → Mu → Value → Prop
  | non {m : Mu} : TyD G .non m (.type "NoneType")
  | bl {m : Mu} {b : Bool} : TyD G (.bl b) m (.type "bool")
  | int {m : Mu} {i : Int} : TyD G (.int i) m (.type "int")
  | str {m : Mu} {x : Str} : TyD G (.str x) m (.type "str")
  | tup {m : Mu} {xs : List D} : TyD G (.tup xs) m (.type "tuple")
  | lst {m : Mu} {xs : List D} : TyD G (.lst xs) m (.type "list")
  | ins {m : Mu} {C : Addr} {ns : List Str} {ds : List D} (h : InsK G.K C) : TyD G (.ins C ns ds) m (.ref C)
theorem TyD.ok {d : D} {t : Value} {H : Hp} {v : V} (h : TyD G d m t) (rp : Rep (dom m) H d v) : TyX G.K H v t := by
  cases h with
  | non => cases rp; exact .base .non
  | bl => cases rp; exact .base (.bl _)
  | int => cases rp; exact .base (.int _)
  | str => cases rp; exact .base (.str _)
  | tup =>
    cases rp with
    | tup mm hh rs =>
      rcases hh with hh | ⟨o, hh⟩
      · exact .base (.tup hh)
      · exact .fTuple hh
  | lst =>
    cases rp with
    | lst mm hh rs =>
      rcases hh with hh | ⟨o, hh⟩
      · exact .base (.lst hh)
      · exact .base (.frz hh)
  | ins h =>
    cases rp with
    | ins mm hh rs => exact .base (.ins hh h.cl h.ha h.hn h.ht h.hm)
theorem wc_isiT {d : D} {t : Value} {n : String} {b : Bool} (ty : TyD G d m t) (hk : PySem.W.kitOne G.K t (.type n) = some b) (h : K (.bl b) m) : Wc W E (cIsi G) [d, .ty n] r m K := fun s H Q vs e z rs g => by
  cases rs with
  | cons a tt =>
    cases tt with
    | cons c tt =>
      cases tt; cases c
      exact ⟨_, _, t, .type n, b, rfl, .ty n, ty.ok a, hk, g _ m _ H (Stp.refl _ _) e.mu (.bl _) h⟩
theorem wc_isiC {d : D} {t : Value} {C : Addr} {b : Bool} (ty : TyD G d m t) (hk : PySem.W.kitOne G.K t (.ref C) = some b) (h : K (.bl b) m) : Wc W E (cIsi G) [d, .ref C] r m K := fun s H Q vs e z rs g => by
  cases rs with
  | cons a tt =>
    cases tt with
    | cons c tt =>
      cases tt; cases c
      exact ⟨_, _, t, .ref C, b, rfl, .own C, ty.ok a, hk, g _ m _ H (Stp.refl _ _) e.mu (.bl _) h⟩
end

/-! ### comprehensions over a list or a tuple, the element by a function -/
section
variable {W : WX} {E : ET} {r : Rho} {m : Mu} {K : KT} {G : Gx} {te tx : TE} {i : Nat}
theorem wipe1 (s : L2.St) : wipe s [i] = s.set i none := rfl
theorem we_lcmG {f : D → D} {W0 : WX} {E0 : ET} (hz : ∀ {m : Mu} {H : Hp}, Rz W E m H → Rz W0 E0 m H) (h : We W E tx r m fun d m1 => ∃ xs, SeqD d xs ∧ Nat.ble xs.length 100000 = true ∧ (∀ x ∈ xs, ∀ (q : Addr × MO) (K2 : KT), K2 (f x) (q :: m1) → We W0 E0 te (r.set i (some x)) (q :: m1) K2) ∧ K (.lst (xs.map f)) m1) :
    We W E (tLc (iSeq G.K tx) (gName i) tYes te [i]) r m K := fun s H Q e z g =>
  h s H _ e z fun d m1 v H1 s1 mu1 r1 q => by
    obtain ⟨xs, sd, hlen, hel, hK⟩ := q
    have e1 := e.step s1 mu1
    have hlen' := Nat.le_of_ble_eq_true hlen
    have start : ∀ Dd, H1 Dd = none → (Stp (dom m1) H1 (dom ((Dd, MO.lst ((xs.take 0).map f)) :: m1)) (upd H1 Dd (.lst [])) ∧ MutR ((Dd, .lst ((xs.take 0).map f)) :: m1) (upd H1 Dd (.lst []))) := fun Dd hd =>
      ⟨Stp.newM hd, mu1.newM hd (.lst upd_same .nil)⟩
    have fin : ∀ (vs : List V) (Dd : Addr), Reps (dom m1) H1 xs vs → ∀ H', (Stp (dom m1) H1 (dom ((Dd, MO.lst ((xs.take vs.length).map f)) :: m1)) H' ∧ MutR ((Dd, .lst ((xs.take vs.length).map f)) :: m1) H') → Q (.ref Dd) H' := fun vs Dd rs H' ⟨a, b⟩ => by
      rw [← rs.length, List.take_length] at a b
      have ls : Stp (dom ((Dd, MO.lst (xs.map f)) :: m1)) H' (dom m1) H' := Stp.less fun a z => dom_cons.mpr (.inr z)
      have q := (At.head (m := m1) (p := Dd) (o := .lst (xs.map f))).rep b
      cases q with
      | lst hh rr => exact g _ m1 _ H' (s1.trans (a.trans ls)) b.drop (.lst b.notin (.inl hh) (rr.mono ls)) hK
    have turn : ∀ (vs : List V) (Dd : Addr), Reps (dom m1) H1 xs vs → ∀ k x H', vs[k]? = some x → (Stp (dom m1) H1 (dom ((Dd, MO.lst ((xs.take k).map f)) :: m1)) H' ∧ MutR ((Dd, .lst ((xs.take k).map f)) :: m1) H') →
        te ((wipe s [i]).set i (some x)) H' fun y H4 => ∃ acc, H4 Dd = some (.lst acc) ∧ acc.length < sizeLine ∧ (Stp (dom m1) H1 (dom ((Dd, MO.lst ((xs.take (k + 1)).map f)) :: m1)) (upd H4 Dd (.lst (acc ++ [y]))) ∧ MutR ((Dd, .lst ((xs.take (k + 1)).map f)) :: m1) (upd H4 Dd (.lst (acc ++ [y])))) := fun vs Dd rs k x H' hx ⟨a, b⟩ => by
      obtain ⟨d, hd1, hd2⟩ := rs.getV hx
      have hmem : d ∈ xs := List.mem_of_getElem? hd1
      have ee : EnvR (r.set i (some d)) ((Dd, .lst ((xs.take k).map f)) :: m1) ((wipe s [i]).set i (some x)) H' := by
        have e' := e1.step a b
        refine ⟨?_, b⟩
        rw [wipe1, List.set_set]
        exact (e'.put (hd2.mono a)).env
      refine hel d hmem (Dd, .lst ((xs.take k).map f)) (fun d' m' => d' = f d ∧ m' = (Dd, .lst ((xs.take k).map f)) :: m1) ⟨rfl, rfl⟩ _ H' _ ee (hz (z.step (s1.trans a))) fun d' m' y H4 st4 mu4 r4 qq => ?_
      obtain ⟨rfl, rfl⟩ := qq
      have q := (At.head (m := m1) (p := Dd) (o := .lst ((xs.take k).map f))).rep mu4
      have ex : xs.take (k + 1) = xs.take k ++ [d] := by
        rw [List.take_add_one, hd1]
        rfl
      cases q with
      | @lst _ ys hh rr =>
        have al : ys.length < sizeLine := by
          rw [← rr.length, List.length_map, List.length_take]
          have : (100000 : Nat) < sizeLine := by decide
          omega
        have P : Put ((Dd, MO.lst ((xs.take k).map f)) :: m1) Dd (.lst ((xs.take (k + 1)).map f)) ((Dd, .lst ((xs.take (k + 1)).map f)) :: m1) := .head
        refine ⟨ys, hh, al, a.trans (st4.trans P.stp), P.mut mu4 (.lst upd_same ?_)⟩
        rw [ex, List.map_append]
        exact Reps.append (rr.mono P.stp) (.cons (r4.mono P.stp) .nil)
    cases sd with
    | lst =>
      cases r1 with
      | @lst a _ vs mm hh rs =>
        refine .inl ⟨a, rfl, ⟨vs, rd_l hh⟩, fun (Dd : Addr) (hD : H1 Dd = none) => ?_⟩
        refine lc_list (xs := vs) (fun k H' => Stp (dom m1) H1 (dom ((Dd, MO.lst ((xs.take k).map f)) :: m1)) H' ∧ MutR ((Dd, .lst ((xs.take k).map f)) :: m1) H') (start Dd hD) (fun k H' _ p => rd_l (p.1.rd mm hh).1)
          (fun k x H' hx p => ⟨by simp only [wipe, List.set_set], ?_⟩) (fun H' p => fin vs Dd rs H' p)
        unfold tYes
        dsimp only
        rw [if_pos rfl]
        exact turn vs Dd rs k x H' hx p
    | tup =>
      cases r1 with
      | @tup a _ vs mm hh rs =>
        refine .inr ⟨a, rfl, ⟨vs, rd_t hh⟩, fun (Dd : Addr) (hD : H1 Dd = none) => ?_⟩
        refine lc_tup (xs := vs) (fun k H' => Stp (dom m1) H1 (dom ((Dd, MO.lst ((xs.take k).map f)) :: m1)) H' ∧ MutR ((Dd, .lst ((xs.take k).map f)) :: m1) H') (start Dd hD) (fun k H' _ p => rd_t (p.1.rd mm hh).1)
          (fun k x H' hx p => ⟨by simp only [wipe, List.set_set], ?_⟩) (fun H' p => fin vs Dd rs H' p)
        unfold tYes
        dsimp only
        rw [if_pos rfl]
        exact turn vs Dd rs k x H' hx p
theorem we_lcm {f : D → D} (h : We W E tx r m fun d m1 => ∃ xs, SeqD d xs ∧ Nat.ble xs.length 100000 = true ∧ (∀ x ∈ xs, ∀ (q : Addr × MO) (K2 : KT), K2 (f x) (q :: m1) → We W E te (r.set i (some x)) (q :: m1) K2) ∧ K (.lst (xs.map f)) m1) :
    We W E (tLc (iSeq G.K tx) (gName i) tYes te [i]) r m K := we_lcmG (fun z => z) h
/-- no call of an element lets an exception out -/
theorem we_lcmN {f : D → D} (h : We W E tx r m fun d m1 => ∃ xs, SeqD d xs ∧ Nat.ble xs.length 100000 = true ∧ (∀ x ∈ xs, ∀ (q : Addr × MO) (K2 : KT), K2 (f x) (q :: m1) → We (fun _ _ _ _ => False) (fun _ _ _ => False) te (r.set i (some x)) (q :: m1) K2) ∧ K (.lst (xs.map f)) m1) :
    We W E (tLc (iSeq G.K tx) (gName i) tYes te [i]) r m K := we_lcmG (fun _ _ _ _ _ _ _ _ _ _ _ (e : False) => e.elim) h
end
end DL
set_option Elab.async false
set_option linter.all false
set_option maxRecDepth 100000
/-! DL7: lists changed, slices, errors raised and caught. -/
namespace DL
open PySem PySem.Spec L2
open PyProof.Rows hiding St

section
variable {W : WX} {E : ET} {r : Rho} {m : Mu} {K : KT} {G : Gx} {te to : TE} {ta : TA} {i : Nat} {P : DEnds}
/-! ### xs.append(d) -/
theorem we_app (h : We W E to r m fun o m1 => ∃ p xs1, o = .ref p ∧ At m1 p (.lst xs1) ∧ Wa W E ta r m1 fun ds m2 => ∃ xs d m3, ds = [d] ∧ At m2 p (.lst xs) ∧ xs.length < 1000000 ∧ Put m2 p (.lst (xs ++ [d])) m3 ∧ K .non m3) :
    We W E (tBM G.K "list" rAppend to ta) r m K := fun s H Q e z g =>
  h s H _ e z fun o m1 v H1 s1 mu1 r1 q => by
    obtain ⟨p, xs1, rfl, ha1, q⟩ := q
    cases r1
    have at1 := ha1.rep mu1
    cases at1 with
    | lst hh1 rs1 =>
      refine ⟨Or.inl ⟨rfl, _, SqL.of hh1⟩, ?_⟩
      refine q s H1 _ (e.step s1 mu1) (z.step s1) fun ds m2 vs H2 s2 mu2 r2 q2 => ?_
      obtain ⟨xs, d, m3, rfl, ha, hl, hp, k⟩ := q2
      have at2 := ha.rep mu2
      cases at2 with
      | lst hh rs =>
        cases r2 with
        | cons rd t =>
          cases t
          have st : ∀ o, Stp (dom m2) H2 (dom m3) (upd H2 p o) := fun o => hp.stp
          refine ⟨p, _, _, rfl, rfl, hh, Nat.lt_of_lt_of_le (by rw [← rs.length]; exact hl) (by decide : 1000000 ≤ sizeLine), ?_⟩
          exact g _ m3 _ _ ((s1.trans s2).trans (st _)) (hp.mut mu2 (.lst upd_same (Reps.append (rs.mono (st _)) (.cons (rd.mono (st _)) .nil)))) .non k

/-! ### slices -/
def cutD (xs : List D) (lo hi : Option Int) : List D := (xs.drop (HT.sIx xs.length 0 lo)).take (HT.sIx xs.length xs.length hi - HT.sIx xs.length 0 lo)
theorem Reps.cut {M : Addr → Prop} {H : Hp} {ds : List D} {vs : List V} (h : Reps M H ds vs) (lo hi : Option Int) : Reps M H (cutD ds lo hi) (cutV vs lo hi) := by
  unfold cutD cutV
  rw [h.length]
  exact (h.drop _).take _
def Wo (W : WX) (E : ET) (t : TO) (r : Rho) (m : Mu) (KO : Option Int → Mu → Prop) : Prop := ∀ s H Q, EnvR r m s H → Rz W E m H → (∀ o m' H', Stp (dom m) H (dom m') H' → MutR m' H' → KO o m' → Q o H') → t s H Q
theorem wo_none {KO : Option Int → Mu → Prop} (h : KO none m) : Wo W E tNoPart r m KO := fun s H Q e z g => g none m H (Stp.refl _ _) e.mu h
theorem wo_some {KO : Option Int → Mu → Prop} (h : We W E te r m fun d m1 => ∃ i, d = .int i ∧ KO (some i) m1) : Wo W E (tPart te) r m KO := fun s H Q e z g =>
  h s H _ e z fun d m1 v H1 s1 mu1 r1 ⟨i, hd, k⟩ => by
    subst hd
    cases r1
    exact ⟨i, rfl, g _ m1 H1 s1 mu1 k⟩
theorem we_slL {tl th : TO} (h : We W E te r m fun d m1 => ∃ xs, d = .lst xs ∧ Wo W E tl r m1 fun lo m2 => Wo W E th r m2 fun hi m3 => K (.lst (cutD xs lo hi)) m3) : We W E (tSl (rSlL G.K) te tl th) r m K := fun s H Q e z g =>
  h s H _ e z fun d m1 v H1 s1 mu1 r1 ⟨xs, hd, q⟩ => by
    subst hd
    refine q s H1 _ (e.step s1 mu1) (z.step s1) fun lo m2 H2 s2 mu2 q2 => ?_
    refine q2 s H2 _ ((e.step s1 mu1).step s2 mu2) ((z.step s1).step s2) fun hi m3 H3 s3 mu3 k => ?_
    have r3 := (r1.mono s2).mono s3
    cases r3 with
    | lst mm hh rs =>
      refine ⟨_, _, rfl, rd_l hh, fun p hp => ?_⟩
      exact g _ m3 _ _ (((s1.trans s2).trans s3).trans (Stp.new hp)) (mu3.new hp) (.lst (fun zz => by obtain ⟨u, hu⟩ := mu3.there zz; rw [hp] at hu; cases hu) (.inl upd_same) ((rs.cut lo hi).mono (Stp.new hp))) k
/-- xs[::-1] -/
theorem Reps.rev {M : Addr → Prop} {H : Hp} : ∀ {d : List D} {v : List V}, Reps M H d v → Reps M H d.reverse v.reverse
  | _, _, .nil => .nil
  | _, _, .cons r t => by
    rw [List.reverse_cons, List.reverse_cons]
    exact Reps.append (Reps.rev t) (.cons r .nil)
theorem we_revL (h : We W E te r m fun d m1 => ∃ xs, d = .lst xs ∧ K (.lst xs.reverse) m1) : We W E (tRevL G.K te) r m K := fun s H Q e z g => by
  refine h s H _ e z fun d m1 v H1 s1 mu1 r1 ⟨xs, hd, k⟩ => ?_
  subst hd
  cases r1 with
  | lst mm hh rs =>
    refine ⟨_, _, rfl, rd_l hh, fun p hp => ?_⟩
    exact g _ m1 _ _ (s1.trans (Stp.new hp)) (mu1.new hp) (.lst (fun zz => by obtain ⟨u, hu⟩ := mu1.there zz; rw [hp] at hu; cases hu) (.inl upd_same) (rs.rev.mono (Stp.new hp))) k
/-- .. of a list that is changed -/
theorem we_revM (h : We W E te r m fun d m1 => ∃ p xs, d = .ref p ∧ At m1 p (.lst xs) ∧ K (.lst xs.reverse) m1) : We W E (tRevL G.K te) r m K := fun s H Q e z g => by
  refine h s H _ e z fun d m1 v H1 s1 mu1 r1 ⟨q, xs, hd, ha, k⟩ => ?_
  subst hd
  cases r1
  have at1 := ha.rep mu1
  cases at1 with
  | lst hh rs =>
    refine ⟨_, _, rfl, SqL.of hh, fun p hp => ?_⟩
    exact g _ m1 _ _ (s1.trans (Stp.new hp)) (mu1.new hp) (.lst (fun zz => by obtain ⟨u, hu⟩ := mu1.there zz; rw [hp] at hu; cases hu) (.inl upd_same) (rs.rev.mono (Stp.new hp))) k
end

/-! ### errors made by an own class: C(e, ..) with an __init__ that keeps its arguments in fields -/
def spXI (C : Addr) (ns : List Str) : Sp := fun vs H Q _ => ∃ (a : Addr) (ys : List V), vs = .ref a :: ys ∧ ys.length = ns.length ∧ H a = some (exo a C none) ∧
  ∀ d H', H d = none → d ≠ a → (∀ b, b ≠ a → b ≠ d → H' b = H b) → H' a = some (exo a C (some d)) → H' d = some (exd d (ns.zip ys).reverse) → Q .non H'
structure Exc (G : Gx) (x : Str) (C : Addr) (ns : List Str) : Prop where
  ex : ∃ (f : Addr) (fd : FuncData) (ps : List Str), FnOk G.P G.w G.K G.mg G.base CX0 1 f fd ps (spXI C ns) ∧ Binds G.K fd ps [] ∧ PySem.W.findIn G.K (.ref C) "__init__" = some (some (.ref f)) ∧ PySem.W.typeIn G.K (.ref f) = some (.type "function")
  ox : OexC G.K C
  mgC : G.mg x = some (.ref C)
section
variable {X : Cx} {W : WX} {E : ET} {x : Str} {C : Addr} {ns : List Str} {e : Expr} {es : List Expr} {ta : TA} {p pos pos' : Pos} {j : Nat}
theorem pmkN_oex (c : Exc (Gx.of X) x C ns) (hr : Room j X.A) (hj : 2 ≤ j) (hg : Gl X x) (ha : PA X (e :: es) ta)
    (hdb : (x == ("__debug__" : Str)) = false := by decide) (he : starEach (e :: es) X.env = (false, eval e X.env) :: starEach es X.env := by rfl) (hpl : (backTo pos (starEach es X.env)).any (·.1) = false := by rfl) :
    L2N.PMk X (.Call (.Name x p) (e :: es) [] pos) (tMkO C (spXI C ns) [] ta) := by
  intro pins s σ H Q I h
  obtain ⟨fI, fd, ps, F1, hb, iC, tI⟩ := c.ex
  have T := c.ox
  obtain ⟨nm, q, N, bs, bm, sn, sub, ab, col, dd, k0, k1, k2, k3, k5, hC, hbm⟩ := T.cls
  refine wpAny_Call_Name_kw (ld_glob I hg c.mgC ?_ hdb)
  refine PySem.W.callWith_K (h₀ := X.base) I.ok.mod.kin T.kC (thn (ha.run pos pins s σ H _ I h) fun us s1 ⟨vs, H1, I1, r1, hz, q1⟩ => ⟨I1.kIn, ?_⟩) he hpl
  show wpAny _ _ (call (.ref C) us) _ _ _
  obtain ⟨hp, g, dr, tk, os⟩ := s1
  have hsz : hp.objs.size ≤ hp.objs.size + 1 := Nat.le_succ _
  have hn : H1 (hp.objs.size + 1) = none := I1.hok.fresh hsz
  have hq := q1 (hp.objs.size + 1) hn
  rw [List.append_nil] at hq
  have kk : ∀ b o, hp.get? b = some o → ((hp.push (PySem.W.kdv_tup us)).push (PySem.HandSPX.excO C hp.objs.size)).get? b = some o := fun b o e => Heap.get?_push_of_some _ (Heap.get?_push_of_some _ e)
  have hget : ((hp.push (PySem.W.kdv_tup us)).push (PySem.HandSPX.excO C hp.objs.size)).get? (hp.objs.size + 1) = some (PySem.HandSPX.excO C hp.objs.size) := by heap_get
  have I2 : Inv X pins σ (upd H1 (hp.objs.size + 1) (exo (hp.objs.size + 1) C none)) ⟨(hp.push (PySem.W.kdv_tup us)).push (PySem.HandSPX.excO C hp.objs.size), g, dr, tk, os⟩ :=
    I1.laid (t' := tk) (a := hp.objs.size + 1) (o := exo (hp.objs.size + 1) C none) (h' := (hp.push (PySem.W.kdv_tup us)).push (PySem.HandSPX.excO C hp.objs.size)) kk hsz (exo_ok hget)
  have r2 : Vals (V.ref (hp.objs.size + 1) :: vs) (Value.ref (hp.objs.size + 1) :: us) := .cons rfl r1
  have hl : (Value.ref (hp.objs.size + 1) :: us ++ []).length = ps.length := by
    have e := r2.length
    rw [F1.len _ _ _ _ hq] at e
    rw [List.append_nil]
    exact e.symm
  have hus : us.length ≤ sizeLine := by
    rw [← Paired.length r1, sizeLine_eq]
    omega
  have b2 := hb _ (Value.ref (hp.objs.size + 1) :: us) I2.kIn hl
  rw [List.append_nil] at b2
  refine wpAny_call (PySem.HandSPX.call_own F.excBase_ValueError (fun Y => PySem.HandSPX.refsVE_contains Y bm hbm) (I1.kIn _ _ hC) (PySem.W.looks_findIn I1.kIn iC) (fun self => PySem.W.bind_fn I1.kIn self tI) hus
    (codeAny_mono (F1.run _ X.stack _ _ ⟨Value.ref (hp.objs.size + 1) :: us, []⟩ (Value.ref (hp.objs.size + 1) :: us) _ _ (fun _ _ _ => False) ((hr.mono hj).make C us []) (I2.env0.make C us []) b2 r2 hq) fun r s' hq' => ?_))
  cases r with
  | error er => exact False.elim hq'
  | ok fl =>
    cases fl with
    | ret u =>
      obtain ⟨v, H2, os2, bare2, un2, hok2, rv, ev, d, fs, ea, ed, hd1, q2⟩ := hq'
      subst ev
      obtain ⟨h2, g2, d2, t2, os'⟩ := s'
      obtain ⟨t0, G, J, kG, ge, hoe, na⟩ := mk_end0 (d2 := d2) (t2 := t2) I1 hsz kk un2 hok2 os2 bare2 ea ed hd1
      exact ⟨rv, ⟨_, _, _, ⟨G, g2, d2, t2, os'⟩, _, .ref C, some d, rfl, J, kG, ge, hoe, ⟨rfl, rfl, fun vs e => by cases e; rfl⟩, rfl, rfl, na, rfl, bare2, raises_own T.exC T.tyC, q2⟩⟩
    | next => exact False.elim hq'
    | brk => exact False.elim hq'
    | cont => exact False.elim hq'
def tRs (C : Addr) (ns : List Str) (W : WX) (ta : TA) : TS := fun _ σ H => tMkO C (spXI C ns) [] ta σ H fun cls d H' => W cls d σ H'
theorem ps_rs (c : Exc (Gx.of X) x C ns) (hc : X.calm = true) (hr : Room j X.A) (hj : 2 ≤ j) (tk : L2N.Takes X W) (hg : Gl X x) (ha : PA X (e :: es) ta)
    (hdb : (x == ("__debug__" : Str)) = false := by decide) (he : starEach (e :: es) X.env = (false, eval e X.env) :: starEach es X.env := by rfl) (hpl : (backTo pos (starEach es X.env)).any (·.1) = false := by rfl) :
    PS X (.Raise (some (.Call (.Name x p) (e :: es) [] pos)) none pos') (tRs C ns W ta) := L2N.ps_raise hc tk (pmkN_oex c hr hj hg ha hdb he hpl)
theorem repF_zip {M : Addr → Prop} {H : Hp} : ∀ {ns : List Str} {ds : List D} {vs : List V}, ds.length = ns.length → Reps M H ds vs → RepF M H ns ds (ns.zip vs)
  | [], [], _, _, .nil => .nil
  | n :: ns, d :: ds, v :: vs, h, .cons r t => .cons r (repF_zip (by simpa using h) t)
theorem RepF.append {M : Addr → Prop} {H : Hp} : ∀ {n n' : List Str} {d d' : List D} {v v' : List (Str × V)}, RepF M H n d v → RepF M H n' d' v' → RepF M H (n ++ n') (d ++ d') (v ++ v')
  | _, _, _, _, _, _, .nil, h => h
  | _, _, _, _, _, _, .cons r t, h => .cons r (RepF.append t h)
theorem RepF.rev {M : Addr → Prop} {H : Hp} : ∀ {n : List Str} {d : List D} {v : List (Str × V)}, RepF M H n d v → RepF M H n.reverse d.reverse v.reverse
  | _, _, _, .nil => .nil
  | _, _, _, .cons r t => by
    rw [List.reverse_cons, List.reverse_cons, List.reverse_cons]
    exact RepF.append (RepF.rev t) (.cons r .nil)
theorem ws_rs {r : Rho} {m : Mu} {P : DEnds} (h : Wa W E ta r m fun ds m1 => ds.length = ns.length ∧ Nat.ble ds.length 1000 = true ∧ E ⟨C, ns.reverse, ds.reverse⟩ r m1) : Ws W E (tRs C ns W ta) r m P := fun s H De e z g =>
  h s H _ e z fun ds m1 vs H1 s1 mu1 r1 ⟨hl, h1000, q⟩ => by
    refine ⟨by rw [← r1.length]; exact Nat.le_of_ble_eq_true h1000, fun a ha => ?_⟩
    refine ⟨a, vs, by rw [List.append_nil], by rw [← r1.length, hl], upd_same, fun d H' hd hne hs h1 h2 => ⟨rfl, d, _, h1, h2, ?_, ?_⟩⟩
    · rw [upd_ne hne] at hd
      exact hd
    · rw [upd_ne hne] at hd
      have hd' : H1 d = none := hd
      have st : Stp (dom m1) H1 (dom m1) (upd (del H' a) d (.xd (ns.zip vs).reverse)) := fun b o hb hm => by
        have nbd : b ≠ d := fun e => by rw [e, hd'] at hb; cases hb
        have nba : b ≠ a := fun e => by rw [e, ha] at hb; cases hb
        rw [upd_ne nbd, del_ne nba, hs b nba nbd, upd_ne nba]
        exact ⟨hb, hm⟩
      have mu : MutR m1 (upd (del H' a) d (.xd (ns.zip vs).reverse)) := ⟨mu1.nd, fun q hq => (mu1.at_ q hq).mono st fun u hu => by
        have nbd : q.1 ≠ d := fun e => by rw [e, hd'] at hu; cases hu
        have nba : q.1 ≠ a := fun e => by rw [e, ha] at hu; cases hu
        rw [upd_ne nbd, del_ne nba, hs _ nba nbd, upd_ne nba]
        exact hu⟩
      have nd : ¬ dom m1 d := fun zz => by obtain ⟨u, hu⟩ := mu1.there zz; rw [hd'] at hu; cases hu
      refine z _ r m1 _ _ s _ (s1.trans st) (e.step (s1.trans st) mu) ⟨rfl, .inr ⟨d, _, rfl, upd_same, nd, ?_⟩⟩ q
      exact RepF.rev (repF_zip hl (r1.mono st))
end

/-! ### try: .. except X as n: .. -/
abbrev wNo : WX := fun _ _ _ _ => False
abbrev eNo : ET := fun _ _ _ => False
theorem takes0N {X : Cx} : L2N.Takes X wNo := fun _ _ x => by
  obtain ⟨_, _, _, _, _, _, _, _, _, _, _, _, _, _, _, _, z⟩ := x
  exact z.elim
abbrev pX (P : DEnds) (i : Nat) : DEnds := { nx := fun r m => P.nx (r.set i none) m, rt := P.rt, bk := fun r m => P.bk (r.set i none) m, ct := fun r m => P.ct (r.set i none) m }
def eAs (K : PySem.W.Frag) (c : Value) (i : Nat) (ts : Addr → Value → Option Addr → TS) (P : DEnds) (E : ET) : ET := fun x r' m' => ∃ b, PySem.W.exmOne K (.ref x.C) c = some b ∧
  (b = true → ∀ a dd, Ws wNo eNo (ts a (.ref x.C) dd) (r'.set i (some (.exc a dd x.C x.ns x.ds))) m' (pX P i)) ∧ (b = false → E x r' m')
section
variable {W : WX} {E : ET} {r : Rho} {m : Mu} {K : PySem.W.Frag} {P : DEnds} {c : Value} {i : Nat} {tb : WX → TS} {ts : Addr → Value → Option Addr → TS} {te : TE} {G : Gx} {KT' : KT}
theorem repX_exc {M : Addr → Prop} {H : Hp} {x : Ex} {cls : Value} {dd : Option Addr} {a : Addr} (h : RepX M H x cls dd) : Rep M H (.exc a dd x.C x.ns x.ds) (.ref a) := by
  obtain ⟨e, h⟩ := h
  obtain ⟨C, ns, ds⟩ := x
  rcases h with ⟨rfl, h1, h2⟩ | ⟨d, gs, rfl, h2, h3, h4⟩
  · have h1' : ns = [] := h1
    have h2' : ds = [] := h2
    subst h1' h2'
    exact .excN
  · exact .excS h3 h2 h4
def tTry (K : PySem.W.Frag) (c : Value) (i : Nat) (ts : Addr → Value → Option Addr → TS) (tb : WX → TS) (W : WX) : TS := fun D σ H => tb (wAs K c i ts W D) D σ H
theorem ps_tryD {X : Cx} {x n : Str} {b₀ : Stmt} {body suite : List Stmt} {np pos pos' : Pos} (hs : X.stack = X.env :: X.outer) (hf : X.env.frame = some X.env.locals) (hN : X.N.Nodup) (hi : X.N[i]? = some n) (hln : X.env.kindOf n = some .local) (hc : Names X x c) (tk : L2N.Takes X W)
    (hb : ∀ (W : WX) (pn : List (Addr × Obj)) (xe : Value → Shared → Prop), L2N.Takes (X.tr pn xe) W → PassesOwn (model X.prog X.w) X.A X.env xe → PSs (X.tr pn xe) body (tb W))
    (hsu : ∀ (a : Addr) (oe : Obj) (cls : Value) (d : Option Addr) (pn : List (Addr × Obj)), L2N.Zn cls d oe → (∃ vs, oe.data = .fields vs) → PSs (X.suite a ((a, oe) :: pn)) (b₀ :: suite) (ts a cls d)) :
    PS X (.Try body [.ExceptHandler (some (.Name x np)) (some n) (b₀ :: suite) pos'] [] [] pos) (tTry X.K c i ts tb W) := L2N.ps_try_as hs hf hN hi hln hc tk hb hsu
theorem ws_try (h : ∀ W', Ws W' (eAs K c i ts P E) (tb W') r m P) : Ws W E (tTry K c i ts tb W) r m P := fun s H De e z g => by
  refine h (wAs K c i ts W De) s H De e ?_ g
  intro x r' m' cls dd s' H' st er rx ⟨b, hb, ht, hf⟩
  obtain rfl := rx.1
  refine ⟨b, hb, fun hbt a ha => ?_, fun hbf => z x r' m' _ dd s' H' st er rx (hf hbf)⟩
  have g' := g.step st
  refine ht hbt a dd _ H' _ (er.put (repX_exc rx)) (fun _ _ _ _ _ _ _ _ _ _ q => q.elim) ?_
  have back : ∀ {r2 : Rho} {m2 : Mu} {s2 : L2.St} {H2 : Hp}, EnvR r2 m2 s2 H2 → EnvR (r2.set i none) m2 (s2.set i none) H2 := fun e2 => ⟨e2.env.set (.none _) i, e2.mu⟩
  exact ⟨fun r2 m2 s2 H2 a2 b2 q => g'.nx _ m2 _ H2 a2 (back b2) q, g'.rt, fun r2 m2 s2 H2 a2 b2 q => g'.bk _ m2 _ H2 a2 (back b2) q, fun r2 m2 s2 H2 a2 b2 q => g'.ct _ m2 _ H2 a2 (back b2) q⟩
/-- e.f in the suite -/
def tXfD (K : PySem.W.Frag) (a : Addr) (cls : Value) (d : Option Addr) (f : Str) (te : TE) : TE := fun σ H Q => ∃ C, XfC K C ∧ PySem.W.findIn K (.ref C) f = some none ∧ tXf a cls d C f te σ H Q
theorem pe_xfD {X : Cx} {a : Addr} {oe : Obj} {cls : Value} {d : Option Addr} {pn : List (Addr × Obj)} {e : Expr} {te : TE} {pos : Pos} {f : Str}
    (hz : L2N.Zn cls d oe) (hf : ∃ vs, oe.data = .fields vs) (he : PE (X.suite a ((a, oe) :: pn)) e te) (hb : attributeBase e f X.env (eval e X.env) = eval e X.env := by rfl) :
    PE (X.suite a ((a, oe) :: pn)) (.Attribute e f pos) (tXfD X.K a cls d f te) := ⟨fun pins s σ H Q I ⟨C, T, hno, h⟩ => (pe_xf T hno hz.zc hf he hb).run pins s σ H Q I h⟩
theorem we_xf {a C : Addr} {dd : Option Addr} {f : Str} (T : XfC G.K C) (hno : PySem.W.findIn G.K (.ref C) f = some none)
    (h : We W E te r m fun d m1 => ∃ ns ds x, d = .exc a dd C ns ds ∧ fix f ns ds = some x ∧ KT' x m1) : We W E (tXfD G.K a (.ref C) dd f te) r m KT' := fun s H Q e z g =>
  ⟨C, T, hno, h s H _ e z fun d m1 v H1 s1 mu1 r1 ⟨ns, ds, x, hd, hx, k⟩ => by
    subst hd
    cases r1 with
    | excN => simp [fix] at hx
    | excS mm hh rf =>
      obtain ⟨y, h1, h2⟩ := rf.look hx
      exact ⟨rfl, rfl, _, _, y, rfl, hh, h1, g x m1 y H1 s1 mu1 h2 k⟩⟩
end
end DL
set_option Elab.async false
set_option linter.all false
set_option maxRecDepth 100000
/-! DL8: the script, the ends, the steps as a word. -/
namespace DL
open PySem PySem.Spec L2
open PyProof.Rows hiding St
theorem hotc {cls : Value} {d : Option Addr} {oe : Obj} (hz : L2N.Zn cls d oe) (hf : ∃ vs, oe.data = .fields vs) : ∃ vs, oe.data = .fields vs ∧ vs[2]? = some .none := by
  obtain ⟨vs, h⟩ := hf
  exact ⟨vs, h, hz.2.2 vs h⟩
/-- the script as the law gets it -/
inductive ScrD (KF : PySem.W.Frag) : D → List Int → Prop
  | lst {ns : List Int} : ScrD KF (.lst (ns.map D.int)) ns
  | ref {a : Addr} {ns : List Int} (h : ∀ H, SqL KF H a (ns.map V.int)) : ScrD KF (.ref a) ns
section
variable {W : WX} {E : ET} {r : Rho} {m : Mu} {K : KT} {G : Gx} {te : TE}
theorem we_slS {tl th : TO} (h : We W E te r m fun d m1 => ∃ ns, ScrD G.K d ns ∧ Wo W E tl r m1 fun lo m2 => Wo W E th r m2 fun hi m3 => K (.lst (cutD (ns.map D.int) lo hi)) m3) : We W E (tSl (rSlL G.K) te tl th) r m K := fun s H Q e z g =>
  h s H _ e z fun d m1 v H1 s1 mu1 r1 ⟨ns, sd, q⟩ => by
    refine q s H1 _ (e.step s1 mu1) (z.step s1) fun lo m2 H2 s2 mu2 q2 => ?_
    refine q2 s H2 _ ((e.step s1 mu1).step s2 mu2) ((z.step s1).step s2) fun hi m3 H3 s3 mu3 k => ?_
    have r3 := (r1.mono s2).mono s3
    cases sd with
    | lst =>
      cases r3 with
      | lst mm hh rs =>
        refine ⟨_, _, rfl, rd_l hh, fun p hp => ?_⟩
        exact g _ m3 _ _ (((s1.trans s2).trans s3).trans (Stp.new hp)) (mu3.new hp) (.lst (fun zz => by obtain ⟨u, hu⟩ := mu3.there zz; rw [hp] at hu; cases hu) (.inl upd_same) ((rs.cut lo hi).mono (Stp.new hp))) k
    | ref h =>
      cases r3
      refine ⟨_, _, rfl, h H3, fun p hp => ?_⟩
      exact g _ m3 _ _ (((s1.trans s2).trans s3).trans (Stp.new hp)) (mu3.new hp) (.lst (fun zz => by obtain ⟨u, hu⟩ := mu3.there zz; rw [hp] at hu; cases hu) (.inl upd_same) (((Reps.ints ns).cut lo hi).mono (Stp.new hp))) k
theorem scr_of {KF : PySem.W.Frag} {H : Hp} {a : Addr} {ns : List Int} (h : SqL KF H a (ns.map V.int)) : ∃ d, ScrD KF d ns ∧ Rep (dom []) H d (.ref a) := by
  rcases h with h | h
  · exact ⟨_, .lst, .lst dom_nil h (Reps.ints ns)⟩
  · exact ⟨_, .ref fun H' => .inr h, .ref a⟩
end
theorem cut63 {xs : List D} (h : xs.length ≤ 63) : cutD xs none (some 63) = xs := by
  unfold cutD
  have e1 : HT.sIx xs.length 0 none = 0 := rfl
  have e2 : HT.sIx xs.length xs.length (some 63) = xs.length := by
    rw [show (some (63 : Int)) = some ((63 : Nat) : Int) from rfl, HT.sIx_nat]
    omega
  rw [e1, e2, List.drop_zero, Nat.sub_zero, List.take_length]

theorem rH {k : Nat} {A : Around} {h : Option Value} (r : L2.Room k A) : L2H.RoomH k (A.mark h) := ⟨r.dp, r.un⟩
/-! ### sizes -/
theorem log2_of {x : Int} {n : Nat} (h : x.natAbs < 2 ^ n) (h0 : 0 < n) : x.natAbs.log2 < n := PySem.Flt.log2_lt_of h0 h
def Bd (n : Nat) (x : Int) : Prop := x.natAbs < 2 ^ n
theorem Bd.mono {a b : Nat} {x : Int} (h : Bd a x) (l : a ≤ b) : Bd b x := Nat.lt_of_lt_of_le h (Nat.pow_le_pow_right (by decide) l)
theorem Bd.mul {a b : Nat} {x y : Int} (h : Bd a x) (k : Bd b y) : Bd (a + b) (x * y) := wide_lt h k
theorem Bd.add {a : Nat} {x y : Int} (h : Bd a x) (k : Bd a y) : Bd (a + 1) (x + y) := by
  unfold Bd at *
  rw [Nat.pow_succ]
  omega
theorem Bd.sub {a : Nat} {x y : Int} (h : Bd a x) (k : Bd a y) : Bd (a + 1) (x - y) := by
  unfold Bd at *
  rw [Nat.pow_succ]
  omega
theorem Bd.neg {a : Nat} {x : Int} (h : Bd a x) : Bd a (-x) := by
  unfold Bd at *
  omega
theorem Bd.ok {a : Nat} {x : Int} (h : Bd a x) : x.natAbs.log2 ≤ a := by
  have := log2_of (n := a + 1) (h.mono (Nat.le_succ a)) (Nat.succ_pos a)
  omega
theorem Bd.mulX {a b : Nat} {x y : Int} (h : Bd a x) (k : Bd b y) (l : a + b < 100000000) : CMulX x y := by
  have := h.ok
  have := k.ok
  unfold CMulX
  omega
theorem Bd.divX {a : Nat} {x y : Int} (h : Bd a y) (n : y ≠ 0) (l : a < 9000) : CDivX x y := ⟨n, by have := h.ok; omega⟩
theorem bd_lit {x : Int} {n : Nat} (h : x.natAbs.blt (2 ^ n) = true) : Bd n x := Nat.le_of_ble_eq_true h

/-! ### the pot that a law draws from -/
def PotM (p : Addr) (m0 m : Mu) : Prop := ∃ (cs : List Int) (i r : Int), m = (p, .lst [.lst (cs.map D.int), .int i, .int r]) :: m0 ∧ 0 ≤ i ∧ 0 ≤ r ∧ ∀ c ∈ cs, 0 ≤ c
def S_pot (KF : PySem.W.Frag) : SpecD := fun ds m K _ => ∃ d ns, ds = [d] ∧ ScrD KF d ns ∧ ns.length ≤ 63 ∧ ∀ p m', ¬ dom m p → PotM p m m' → K (.ref p) m'
def S_digit : SpecD := fun ds m K _ => ∃ p many m0, ds = [.ref p, .int many] ∧ 0 < many ∧ Bd 8000 many ∧ PotM p m0 m ∧ ∀ dg m', 0 ≤ dg → dg < many → PotM p m0 m' → K (.int dg) m'

theorem cx_G {G : Gx} {N : List Str} {qual : Str} {st : Stmt} {f : Addr} {cdv : Value} {A : Around} {outer : List Env} {s : Shared} {H : Hp} {F : XK} : Gx.of (cxG G N qual st f cdv A outer s H F) = G := rfl
theorem cx_K {G : Gx} {N : List Str} {qual : Str} {st : Stmt} {f : Addr} {cdv : Value} {A : Around} {outer : List Env} {s : Shared} {H : Hp} {F : XK} : (cxG G N qual st f cdv A outer s H F).K = G.K := rfl
theorem cxH_G {G : Gx} {N : List Str} {qual : Str} {st : Stmt} {f : Addr} {cdv : Value} {A : Around} {outer : List Env} {s : Shared} {H : Hp} {F : XK} {p : Addr × Obj} : Gx.of (cxGH G N qual st f cdv A outer s H F p) = G := rfl
theorem cxH_K {G : Gx} {N : List Str} {qual : Str} {st : Stmt} {f : Addr} {cdv : Value} {A : Around} {outer : List Env} {s : Shared} {H : Hp} {F : XK} {p : Addr × Obj} : (cxGH G N qual st f cdv A outer s H F p).K = G.K := rfl
/-- an item of a list of numbers -/
theorem atI_ints {cs : List Int} {i : Int} (h0 : 0 ≤ i) (h1 : i < (cs.length : Int)) : ∃ c, c ∈ cs ∧ atI (cs.map D.int) i = some (.int c) := by
  obtain ⟨n, rfl⟩ := Int.eq_ofNat_of_zero_le h0
  have hn : n < cs.length := by omega
  refine ⟨cs[n], List.getElem_mem hn, atI_nat ?_⟩
  rw [List.getElem?_map, List.getElem?_eq_getElem hn]
  rfl
theorem use_digit {p : Addr} {many : Int} {m m0 : Mu} {K : KT} {E : Ex → Mu → Prop} (h0 : 0 < many) (hb : Bd 8000 many) (hm : PotM p m0 m) (k : ∀ dg m', 0 ≤ dg → dg < many → PotM p m0 m' → K (.int dg) m') : S_digit [.ref p, .int many] m K E :=
  ⟨p, many, m0, rfl, h0, hb, hm, k⟩

section
variable {W : WX} {E : ET} {r : Rho} {m : Mu} {K : KT} {S : SpecD} {n : Nat} {t : TA} {C : Addr} {G : Gx} {te : TE}
theorem Wa.imp {KA KA' : List D → Mu → Prop} (h : Wa W E t r m KA) (k : ∀ ds m', KA ds m' → KA' ds m') : Wa W E t r m KA' := fun s H Q e z g => h s H Q e z fun ds m' vs H' a b c x => g ds m' vs H' a b c (k ds m' x)
theorem we_cl0 (h : Wa W E t r m fun ds m1 => ds.length = n ∧ S ds m1 K fun x m' => E x r m') : We W E (tCl n S [] W t) r m K :=
  we_cl rfl (h.imp fun ds m' k => by rw [List.append_nil]; exact k)
theorem we_mk0 (h : Wa W E t r m fun ds m1 => ds.length + 1 = n ∧ ∀ x, ¬ dom m1 x →
    S (.ref x :: ds) ((x, .ins C [] []) :: m1) (fun d m2 => ∃ ns fs, d = .non ∧ m2 = (x, .ins C ns fs) :: m1 ∧ K (.ins C ns fs) m1) fun ex m2 => ∃ o, m2 = (x, o) :: m1 ∧ E ex r m1) : We W E (tMk C n S [] W t) r m K :=
  we_mk rfl (h.imp fun ds m' k => by rw [List.append_nil]; exact k)
/-- one more argument by default -/
theorem we_mk1 {d1 : D} (hc : isC d1 = true) (h : Wa W E t r m fun ds m1 => ds.length + 1 + 1 = n ∧ ∀ x, ¬ dom m1 x →
    S (.ref x :: (ds ++ [d1])) ((x, .ins C [] []) :: m1) (fun d m2 => ∃ ns fs, d = .non ∧ m2 = (x, .ins C ns fs) :: m1 ∧ K (.ins C ns fs) m1) fun ex m2 => ∃ o, m2 = (x, o) :: m1 ∧ E ex r m1) : We W E (tMk C n S [d1] W t) r m K :=
  we_mk (by rw [List.all_cons, hc]; rfl) (h.imp fun ds m' k => ⟨by rw [List.length_append]; exact k.1, k.2⟩)
/-- a field of a fixed instance -/
theorem we_fldF {f : Str} (h : We W E te r m fun d m1 => ∃ C ns ds x, d = .ins C ns ds ∧ Cls G.K C ∧ NoAttr G.K C f ∧ fix f ns ds = some x ∧ K x m1) : We W E (tFld G.K te f) r m K :=
  we_fld (h.imp fun d m1 ⟨C, ns, ds, x, hd, q⟩ => ⟨C, ns, ds, x, by rw [hd]; exact .fixed, q⟩)
end
/-! ### Ratio: top, bottom -/
abbrev rat (C : Addr) (t b : Int) : D := .ins C ["top", "bottom"] [.int t, .int b]
theorem fix_top {a b : D} : fix "top" ["top", "bottom"] [a, b] = some a := by simp [fix]
theorem nbt : ¬ (("bottom" : Str) = "top") := by decide +kernel
theorem ntb : ¬ (("top" : Str) = "bottom") := by decide +kernel
theorem fix_bottom {a b : D} : fix "bottom" ["top", "bottom"] [a, b] = some b := by simp [fix, nbt]
structure RatC (K : PySem.W.Frag) (C : Addr) : Prop where
  ins : InsK K C
  at_ : NoAttr K C "top"
  ab : NoAttr K C "bottom"
section
variable {K : PySem.W.Frag} {KK : D → Prop} {C : Addr} {t b : Int}
theorem fld_top (R : RatC K C) (h : KK (.int t)) : ∃ C' ns ds x, rat C t b = .ins C' ns ds ∧ Cls K C' ∧ NoAttr K C' "top" ∧ fix "top" ns ds = some x ∧ KK x := ⟨_, _, _, _, rfl, R.ins.cl, R.at_, fix_top, h⟩
theorem fld_bottom (R : RatC K C) (h : KK (.int b)) : ∃ C' ns ds x, rat C t b = .ins C' ns ds ∧ Cls K C' ∧ NoAttr K C' "bottom" ∧ fix "bottom" ns ds = some x ∧ KK x := ⟨_, _, _, _, rfl, R.ins.cl, R.ab, fix_bottom, h⟩
end

theorem kit_ii {K : PySem.W.Frag} : PySem.W.kitOne K (.type "int") (.type "int") = some true := kit_ty (by decide +kernel)
theorem kit_ib {K : PySem.W.Frag} : PySem.W.kitOne K (.type "int") (.type "bool") = some false := kit_ty (by decide +kernel)
section
variable {K : PySem.W.Frag} {C : Addr} {m0 : Mu} {x : Addr} {d e : D} {N : Mu → Prop}
theorem cont_tb : (["top"] : List Str).contains "bottom" = false := by decide +kernel
theorem setN_top (R : RatC K C) (h : N ((x, .ins C ["top"] [d]) :: m0)) : ∃ p C' ns ds m3, D.ref x = .ref p ∧ At ((x, MO.ins C [] []) :: m0) p (.ins C' ns ds) ∧ Cls K C' ∧ NoAttr K C' "top" ∧ ns.contains "top" = false ∧ Nat.ble ns.length 900 = true ∧ Put ((x, MO.ins C [] []) :: m0) p (.ins C' (ns ++ [("top" : Str)]) (ds ++ [d])) m3 ∧ N m3 :=
  ⟨_, _, _, _, _, rfl, .head, R.ins.cl, R.at_, rfl, rfl, .head, h⟩
theorem setN_bottom (R : RatC K C) (h : N ((x, .ins C ["top", "bottom"] [d, e]) :: m0)) : ∃ p C' ns ds m3, D.ref x = .ref p ∧ At ((x, MO.ins C ["top"] [d]) :: m0) p (.ins C' ns ds) ∧ Cls K C' ∧ NoAttr K C' "bottom" ∧ ns.contains "bottom" = false ∧ Nat.ble ns.length 900 = true ∧ Put ((x, MO.ins C ["top"] [d]) :: m0) p (.ins C' (ns ++ [("bottom" : Str)]) (ds ++ [e])) m3 ∧ N m3 :=
  ⟨_, _, _, _, _, rfl, .head, R.ins.cl, R.ab, cont_tb, rfl, .head, h⟩
end
/-- what is left mutable at a return is let go -/
theorem MutR.dropn {H : Hp} : ∀ {m : Mu} (k : Nat), MutR m H → MutR (m.drop k) H
  | _, 0, h => h
  | [], _ + 1, h => h
  | _ :: m, k + 1, h => MutR.dropn (m := m) k h.drop
theorem dom_dropn {a : Addr} : ∀ {m : Mu} (k : Nat), dom (m.drop k) a → dom m a
  | _, 0, h => h
  | [], _ + 1, h => h
  | _ :: m, k + 1, h => dom_cons.mpr (.inr (dom_dropn (m := m) k h))
theorem Ws.shed {W : WX} {E : ET} {t : TS} {r : Rho} {m : Mu} {P : DEnds} (h : Ws W E t r m { P with rt := fun d m' => ∃ k, P.rt d (m'.drop k) }) : Ws W E t r m P := fun s H De e z g =>
  h s H De e z ⟨g.nx, fun d m' v H' a b c ⟨k, q⟩ => by
    have ls : Stp (dom m') H' (dom (m'.drop k)) H' := Stp.less fun a z => dom_dropn k z
    exact g.rt d _ v H' (a.trans ls) (b.dropn k) (c.mono ls) q, g.bk, g.ct⟩
/-- a list of a function's values, from the end -/
theorem atI_neg {α : Type} {xs : List α} {n : Nat} {v : α} (h0 : 0 < n) (hn : n ≤ xs.length) (h : xs[xs.length - n]? = some v) : atI xs (-(n : Int)) = some v := by
  unfold atI ixN
  rw [if_neg (by omega), if_pos (by omega)]
  have e : (-(n : Int) + (xs.length : Int)).toNat = xs.length - n := by omega
  rw [e]
  exact h
theorem range_at {f : Nat → D} {n i : Nat} (h : i < n) : ((List.range n).map f)[i]? = some (f i) := by
  rw [List.getElem?_map, List.getElem?_range h]
  rfl
theorem range_m1 {f : Nat → D} (k : Nat) : atI ((List.range (k + 1)).map f) (-1) = some (f k) :=
  atI_neg (n := 1) (by omega) (by simp) (by simp only [List.length_map, List.length_range]; exact range_at (by omega))
theorem range_m2 {f : Nat → D} (k : Nat) : atI ((List.range (k + 2)).map f) (-2) = some (f k) :=
  atI_neg (n := 2) (by omega) (by simp) (by simp only [List.length_map, List.length_range]; exact range_at (by omega))
theorem range_snoc {f : Nat → D} (k : Nat) : (List.range k).map f ++ [f k] = (List.range (k + 1)).map f := by
  rw [List.range_succ, List.map_append]
  rfl
theorem pe_gcD {X : Cx} {x : Str} {v : V} {pos : Pos} (hg : Gl X x) (h : ∃ u, X.mg x = some u ∧ RelV v u) (hd : (x == ("__debug__" : Str)) = false := by decide) : PE X (.Name x pos) (tC v) := by
  obtain ⟨u, hm, r⟩ := h
  exact pe_glob hg hm r hd
/-! ### the end -/
def S_law (KF : PySem.W.Frag) : SpecD := fun ds m KK _ => ∃ d ns, ds = [d] ∧ ScrD KF d ns ∧ ns.length ≤ 63 ∧ (∀ z ∈ ns, Builtin.Int.intBits z ≤ 1048576) ∧ m = [] ∧ ∀ m', KK (.bl true) m'
theorem walkB {l : PySem.W.OpenLaw} {k : Nat} {q : Program} {loose : List Str} {XP : (Str → Option Value) → Heap → Prop} {YP : World → Heap → Prop} {d : DefRec} {K : Params → PySem.W.Frag} {x : Str}
    (hn : l.most = some 63) (hdf : d.params.defaults = []) (hr : Room k callerA)
    (hY : ∀ (w : World) (h : Heap), YP w h → (K w.params).In h)
    (F : ∀ (w : World) (mg : Str → Option Value) (fa : Addr) (h : Heap), (K w.params).In h → h.Ns mainGlobals mg → mg d.name = some (.ref fa) →
      ∃ fd : FuncData, (∀ (s : Shared) (u : Value), BindsTo s fd ⟨[u], []⟩ [(x, u)]) ∧
        ∀ base : Heap, (K w.params).In base → base.Ns mainGlobals mg → FnOk l.prog w (K w.params) mg base (L2N.CX l.prog w) k fa fd [x] (spD 1 (S_law (K w.params)))) :
    PySem.W.WalkO q loose XP YP l.row.toRowW d [] (fun f vs => PySem.call f vs) :=
  L2.walk_ofB (n := 63) (k := k) (x := x) (CX := fun w => L2N.CX l.prog w) (sp := fun w => spD 1 (S_law (K w.params))) hn (by decide) hdf hr hY F
    (fun w H a ns hl hb _ h => by
      obtain ⟨dd, sd, rp⟩ := scr_of h
      exact ⟨[dd], [], fun d' _ => d' = .bl true, fun _ _ => False, rfl, .cons rp .nil, MutR.nil H, ⟨dd, ns, rfl, sd, hl, hb, rfl, fun m' => rfl⟩, fun d' m' v H' _ _ rp' e => by subst e; cases rp'; rfl, fun _ _ _ _ _ _ _ _ e => e.elim⟩)
    fun w H s e s' z => by
      obtain ⟨_, _, _, _, _, _, _, _, _, _, _, _, z⟩ := z
      exact z.elim
end DL
set_option Elab.async false
set_option linter.all false
set_option maxRecDepth 100000
/-! DL9: isinstance of a caught error; errors made without arguments; several except clauses. -/
namespace DL
open PySem PySem.Spec L2
open PyProof.Rows hiding St
/-- the class of a caught error, as isinstance asks -/
structure ExK (K : PySem.W.Frag) (D : Addr) : Prop where
  xf : XfC K D
  ic : PySem.W.isClsIn K D = true
  ha : PySem.W.findIn K (.ref D) "__class__" = some (some (.builtin "object.__class__"))
  hn : PySem.W.specialIn K (.builtin "object.__class__") "__get__" = some (some (.builtin "getset_descriptor.__get__"))
  ht : PySem.W.takesIn K (.builtin "object.__class__") = some true
  hm : PySem.W.mroIn K D (.type "object") = some true
def cIsE (K : PySem.W.Frag) (a : Addr) (cls : Value) (d : Option Addr) : OC := fun xs _ H Q => ∃ (D : Addr) (c : V) (u : Value) (b : Bool), cls = .ref D ∧ ExK K D ∧ xs = [.ref a, c] ∧ ClsV c u ∧ PySem.W.kitOne K (.ref D) u = some b ∧
  (d = none ∨ ∃ (dd : Addr) (gs : List (Str × V)), d = some dd ∧ H dd = some (.xd gs)) ∧ Q (.bl b) H
theorem cs_isE {X : Cx} {a : Addr} {cls : Value} {d : Option Addr} {oe : Obj} {pn : List (Addr × Obj)} (hz : L2N.Zn cls d oe) (hf : ∃ vs, oe.data = .fields vs) : CallS (X.suite a ((a, oe) :: pn)) (.builtin "isinstance") (cIsE X.K a cls d) := by
  intro pins s σ H xs us Q I ru h
  obtain ⟨D, c, u, b, rfl, T, rfl, hc, hk, hd, q⟩ := h
  cases ru with
  | cons ra rt =>
    cases rt with
    | cons rc rt =>
      cases rt
      cases ra
      have ec := hc.eq rc
      subst ec
      obtain ⟨hget, _⟩ := I.pin (a, oe) (List.mem_append_left _ List.mem_cons_self)
      obtain ⟨vs, hv⟩ := hf
      have hno : PySem.W.notCls oe = true := by unfold PySem.W.notCls; rw [hv] <;> rfl
      have J : ∃ od, PySem.W.InstAt s.heap a oe D od := by
        rcases hd with rfl | ⟨dd, gs, rfl, hx⟩
        · exact ⟨none, hget, hz.1, hno, by rw [hz.2.1]; trivial⟩
        · have hx : ObjOk X.prog X.w H s.heap dd (.xd gs) := I.hok dd _ hx
          obtain ⟨mA, hns, _⟩ := hx
          obtain ⟨od, ho, _⟩ := lookIn_ns hns
          exact ⟨some od, hget, hz.1, hno, by rw [hz.2.1]; exact ho⟩
      obtain ⟨od, J⟩ := J
      exact PySem.W.kia_one (PySem.W.kitx_exc T.ic T.xf.ga T.xf.gg T.xf.exC T.ha T.hn T.ht T.hm) I.kIn J hk (fun z => nomatch z) fun tk => ⟨.bl b, H, I.kept (t' := tk) fun _ _ z => z, rfl, q⟩
section
variable {W : WX} {E : ET} {r : Rho} {m : Mu} {K : KT} {G : Gx} {a C : Addr} {dd : Option Addr} {ns : List Str} {ds : List D}
theorem exc_dd {M : Addr → Prop} {H : Hp} {v : V} (h : Rep M H (.exc a dd C ns ds) v) : v = .ref a ∧ (dd = none ∨ ∃ (x : Addr) (gs : List (Str × V)), dd = some x ∧ H x = some (.xd gs)) := by
  cases h with
  | excN => exact ⟨rfl, .inl rfl⟩
  | excS mm hh rr => exact ⟨rfl, .inr ⟨_, _, rfl, hh⟩⟩
theorem wc_isEC {B : Addr} {b : Bool} (T : ExK G.K C) (hk : PySem.W.kitOne G.K (.ref C) (.ref B) = some b) (h : K (.bl b) m) : Wc W E (cIsE G.K a (.ref C) dd) [.exc a dd C ns ds, .ref B] r m K := fun s H Q vs e z rs g => by
  cases rs with
  | cons x tt =>
    cases tt with
    | cons c tt =>
      cases tt; cases c
      obtain ⟨rfl, hd⟩ := exc_dd x
      exact ⟨C, _, .ref B, b, rfl, T, rfl, .own B, hk, hd, g _ m _ H (Stp.refl _ _) e.mu (.bl _) h⟩
theorem wc_isET {n : String} {b : Bool} (T : ExK G.K C) (hk : PySem.W.kitOne G.K (.ref C) (.type n) = some b) (h : K (.bl b) m) : Wc W E (cIsE G.K a (.ref C) dd) [.exc a dd C ns ds, .ty n] r m K := fun s H Q vs e z rs g => by
  cases rs with
  | cons x tt =>
    cases tt with
    | cons c tt =>
      cases tt; cases c
      obtain ⟨rfl, hd⟩ := exc_dd x
      exact ⟨C, _, .type n, b, rfl, T, rfl, .ty n, hk, hd, g _ m _ H (Stp.refl _ _) e.mu (.bl _) h⟩
end
/-! ### raise C(), C an own class without an __init__ -/
structure Exc0 (G : Gx) (x : Str) (C : Addr) : Prop where
  q : PySem.W.excIn G.K C [.type "ValueError", .type "Exception", .type "BaseException", .type "object"] "ValueError.__new__" = true
  kC : PySem.W.keepIn G.K (.ref C) = true
  exC : PySem.W.subIn G.K (.ref C) (.type "BaseException") = some true
  tyC : PySem.W.typeIn G.K (.ref C) = some (.type "type")
  mgC : G.mg x = some (.ref C)
def tRs0 (C : Addr) (W : WX) : TS := fun _ σ H => W (.ref C) none σ H
section
variable {X : Cx} {W : WX} {E : ET} {x : Str} {C : Addr} {p pos pos' : Pos} {r : Rho} {m : Mu} {P : DEnds}
theorem pmkN_own0 (c : Exc0 (Gx.of X) x C) (hg : Gl X x) (hdb : (x == ("__debug__" : Str)) = false := by decide) : L2N.PMk X (.Call (.Name x p) [] [] pos) (fun _ H Q => Q (.ref C) none H) := by
  intro pins s σ H Q I h
  refine wpAny_Call_Name_kw (ld_glob I hg c.mgC ?_ hdb)
  refine PySem.W.callWith_K0 I.kIn c.kC ?_
  obtain ⟨bm, Na, nm, qn, bs, hdct, sn, sub, ab, col, dd, k0, k1, k2, k3, k5, mN, hC, hN, hni, T⟩ := exc_obj I.kIn c.q
  exact wpAny_call_exc_subT PySem.F.excBase_ValueError T hC hN hni (fun h' e hm => L2N.mk_of I hm (raises_own c.exC c.tyC) h (I.hok.gone hm.new)) (by show 0 ≤ sizeLine; exact Nat.zero_le _)
theorem ps_rs0 (c : Exc0 (Gx.of X) x C) (hc : X.calm = true) (tk : L2N.Takes X W) (hg : Gl X x) (hdb : (x == ("__debug__" : Str)) = false := by decide) :
    PS X (.Raise (some (.Call (.Name x p) [] [] pos)) none pos') (tRs0 C W) := L2N.ps_raise hc tk (pmkN_own0 c hg hdb)
theorem ws_rs0 (h : E ⟨C, [], []⟩ r m) : Ws W E (tRs0 C W) r m P := fun s H De e z g => z _ r m _ _ s H (Stp.refl _ _) e ⟨rfl, .inl ⟨rfl, rfl, rfl⟩⟩ h
end
/-! ### several clauses: except C1 as n: .., except C2 as n: .. -/
end DL
set_option Elab.async false
set_option linter.all false
/-! MR: fractions in lowest terms, Euclid's turns. -/
namespace DL
open PySem PySem.Spec L2
/-! ### lowest terms -/
def gc (t b : Int) : Int := (Nat.gcd t.natAbs b.natAbs : Nat)
def rT (t b : Int) : Int := if b < 0 then -t / gc t b else t / gc t b
def rB (t b : Int) : Int := if b < 0 then -b / gc t b else b / gc t b
theorem gc_pos {t b : Int} (h : b ≠ 0) : 0 < gc t b := by
  have : 0 < Nat.gcd t.natAbs b.natAbs := Nat.gcd_pos_of_pos_right _ (by omega)
  unfold gc; omega
theorem gc_dvd1 (t b : Int) : gc t b ∣ t := Int.ofNat_dvd_left.mpr (Nat.gcd_dvd_left _ _)
theorem gc_dvd2 (t b : Int) : gc t b ∣ b := Int.ofNat_dvd_left.mpr (Nat.gcd_dvd_right _ _)
theorem gc_bd {t b : Int} {n : Nat} (h : b ≠ 0) (hb : Bd n b) : Bd n (gc t b) := by
  have : Nat.gcd t.natAbs b.natAbs ≤ b.natAbs := Nat.le_of_dvd (by omega) (Nat.gcd_dvd_right _ _)
  unfold Bd gc at *
  omega
theorem fdiv_pos {a g : Int} (h : 0 < g) : a.fdiv g = a / g := Int.fdiv_eq_ediv_of_nonneg _ (by omega)
theorem fdiv_neg' {a g : Int} (h : 0 < g) (d : g ∣ a) : a.fdiv (-g) = -a / g := by
  obtain ⟨c, rfl⟩ := d
  have e1 : g * c = (-g) * (-c) := by rw [Int.neg_mul_neg]
  have e2 : -(g * c) = g * (-c) := by rw [Int.mul_neg]
  rw [e2, Int.mul_ediv_cancel_left _ (by omega), e1, Int.mul_comm]
  exact Int.mul_fdiv_cancel _ (by omega)
/-- t = g * rT up to the sign of b -/
theorem rat_eqs {t b : Int} (h : b ≠ 0) : ∃ g : Int, g ≠ 0 ∧ t = g * rT t b ∧ b = g * rB t b ∧ 0 < rB t b := by
  have gp := gc_pos (t := t) h
  obtain ⟨c, hc⟩ := gc_dvd1 t b
  obtain ⟨d, hd⟩ := gc_dvd2 t b
  by_cases hb : b < 0
  · refine ⟨-gc t b, by omega, ?_, ?_, ?_⟩
    · unfold rT; rw [if_pos hb]
      have : -t / gc t b = -c := by
        have e : -t = gc t b * (-c) := by rw [Int.mul_neg, ← hc]
        rw [e, Int.mul_ediv_cancel_left _ (by omega)]
      rw [this, Int.neg_mul_neg]; exact hc
    · unfold rB; rw [if_pos hb]
      have : -b / gc t b = -d := by
        have e : -b = gc t b * (-d) := by rw [Int.mul_neg, ← hd]
        rw [e, Int.mul_ediv_cancel_left _ (by omega)]
      rw [this, Int.neg_mul_neg]; exact hd
    · unfold rB; rw [if_pos hb]
      exact Int.ediv_pos_of_pos_of_dvd (by omega) (by omega) (Int.dvd_neg.mpr ⟨d, hd⟩)
  · refine ⟨gc t b, by omega, ?_, ?_, ?_⟩
    · unfold rT; rw [if_neg hb]
      have : t / gc t b = c := by
        have e : t = gc t b * c := hc
        rw [show t / gc t b = (gc t b * c) / gc t b by rw [← e], Int.mul_ediv_cancel_left _ (by omega)]
      rw [this]; exact hc
    · unfold rB; rw [if_neg hb]
      have : b / gc t b = d := by
        have e : b = gc t b * d := hd
        rw [show b / gc t b = (gc t b * d) / gc t b by rw [← e], Int.mul_ediv_cancel_left _ (by omega)]
      rw [this]; exact hd
    · unfold rB; rw [if_neg hb]
      exact Int.ediv_pos_of_pos_of_dvd (by omega) (by omega) ⟨d, hd⟩
theorem natAbs_div {a : Int} {g : Nat} (h : 0 < g) (d : (g : Int) ∣ a) : (a / (g : Int)).natAbs = a.natAbs / g := by
  obtain ⟨c, rfl⟩ := d
  rw [Int.mul_ediv_cancel_left _ (by omega), Int.natAbs_mul, Int.natAbs_natCast, Nat.mul_div_cancel_left _ h]
theorem rat_gcd {t b : Int} (h : b ≠ 0) : Nat.gcd (rT t b).natAbs (rB t b).natAbs = 1 := by
  have gp : 0 < Nat.gcd t.natAbs b.natAbs := Nat.gcd_pos_of_pos_right _ (by omega)
  have e1 : (rT t b).natAbs = t.natAbs / Nat.gcd t.natAbs b.natAbs := by
    unfold rT
    split
    · have := natAbs_div (a := -t) gp (Int.dvd_neg.mpr (gc_dvd1 t b))
      rw [Int.natAbs_neg] at this; exact this
    · exact natAbs_div gp (gc_dvd1 t b)
  have e2 : (rB t b).natAbs = b.natAbs / Nat.gcd t.natAbs b.natAbs := by
    unfold rB
    split
    · have := natAbs_div (a := -b) gp (Int.dvd_neg.mpr (gc_dvd2 t b))
      rw [Int.natAbs_neg] at this; exact this
    · exact natAbs_div gp (gc_dvd2 t b)
  rw [e1, e2]
  rw [Nat.gcd_div (Nat.gcd_dvd_left _ _) (Nat.gcd_dvd_right _ _)]
  exact Nat.div_self gp
theorem rat_bd {t b : Int} {n : Nat} (h : b ≠ 0) (ht : Bd n t) : Bd n (rT t b) := by
  obtain ⟨g, hg, e, _⟩ := rat_eqs (t := t) h
  have : t.natAbs = g.natAbs * (rT t b).natAbs := by rw [← Int.natAbs_mul, ← e]
  have hp : 1 ≤ g.natAbs := by omega
  have : (rT t b).natAbs ≤ t.natAbs := by
    rw [this]
    calc (rT t b).natAbs = 1 * (rT t b).natAbs := (Nat.one_mul _).symm
      _ ≤ _ := Nat.mul_le_mul_right _ hp
  unfold Bd at *
  omega
theorem rat_bdB {t b : Int} {n : Nat} (h : b ≠ 0) (ht : Bd n b) : Bd n (rB t b) := by
  obtain ⟨g, hg, _, e, _⟩ := rat_eqs (t := t) h
  have : b.natAbs = g.natAbs * (rB t b).natAbs := by rw [← Int.natAbs_mul, ← e]
  have hp : 1 ≤ g.natAbs := by omega
  have : (rB t b).natAbs ≤ b.natAbs := by
    rw [this]
    calc (rB t b).natAbs = 1 * (rB t b).natAbs := (Nat.one_mul _).symm
      _ ≤ _ := Nat.mul_le_mul_right _ hp
  unfold Bd at *
  omega
/-! ### Euclid's turns -/
def Eu (a k x y : Nat) : Prop := (k = 0 ∧ x < 2 ^ a ∧ y < 2 ^ a) ∨ (1 ≤ k ∧ k ≤ a + a + 1 ∧ y < x ∧ x * y * 2 ^ (k - 1) < 2 ^ (a + a))
theorem Eu.step {a k x y : Nat} (h : Eu a k x y) (hy : 0 < y) : Eu a (k + 1) y (x % y) := by
  have hm := Nat.mod_lt x hy
  rcases h with ⟨rfl, h1, h2⟩ | ⟨h1, h2, h3, h4⟩
  · refine .inr ⟨by omega, by omega, hm, ?_⟩
    rw [show (0 + 1 - 1 : Nat) = 0 from rfl, Nat.pow_zero, Nat.mul_one, Nat.pow_add]
    exact Nat.mul_lt_mul'' h2 (Nat.lt_of_le_of_lt (Nat.mod_le _ _) h1)
  · have hx : 1 ≤ x * y := Nat.mul_pos (by omega) hy
    have l1 : 2 ^ (k - 1) < 2 ^ (a + a) := Nat.lt_of_le_of_lt (by
      calc 2 ^ (k - 1) = 1 * 2 ^ (k - 1) := (Nat.one_mul _).symm
        _ ≤ x * y * 2 ^ (k - 1) := Nat.mul_le_mul_right _ hx) h4
    have l2 : k - 1 < a + a := (Nat.pow_lt_pow_iff_right (by decide)).mp l1
    refine .inr ⟨by omega, by omega, hm, ?_⟩
    have e : 2 ^ (k + 1 - 1) = 2 * 2 ^ (k - 1) := by
      rw [show k + 1 - 1 = (k - 1) + 1 by omega, Nat.pow_succ, Nat.mul_comm]
    have two : 2 * (x % y) ≤ x := by
      have e1 := Nat.div_add_mod x y
      have q : 1 ≤ x / y := (Nat.one_le_div_iff hy).mpr (by omega)
      have : y * 1 ≤ y * (x / y) := Nat.mul_le_mul_left _ q
      omega
    calc y * (x % y) * 2 ^ (k + 1 - 1) = y * (2 * (x % y)) * 2 ^ (k - 1) := by rw [e]; ac_rfl
      _ ≤ y * x * 2 ^ (k - 1) := Nat.mul_le_mul_right _ (Nat.mul_le_mul_left _ two)
      _ = x * y * 2 ^ (k - 1) := by rw [Nat.mul_comm y x]
      _ < _ := h4
theorem Eu.early {a k x y : Nat} (h : Eu a k x y) (hk : a + a + 1 < k) : False := by
  rcases h with ⟨rfl, _⟩ | ⟨_, h, _⟩ <;> omega

/-- lowest terms stay -/
theorem rat_low {t b : Int} (h : 0 < b) (g : Nat.gcd t.natAbs b.natAbs = 1) : rT t b = t ∧ rB t b = b := by
  have e : gc t b = 1 := by
    unfold gc
    rw [g]
    rfl
  unfold rT rB
  rw [if_neg (by omega), if_neg (by omega), e, Int.ediv_one, Int.ediv_one]
  exact ⟨rfl, rfl⟩
structure Lo (a : Nat) (t b : Int) : Prop where
  pos : 0 < b
  gcd : Nat.gcd t.natAbs b.natAbs = 1
  bt : Bd a t
  bb : Bd a b
theorem lo_rat {a : Nat} {t b : Int} (h0 : b ≠ 0) (ht : Bd a t) (hb : Bd a b) : Lo a (rT t b) (rB t b) := by
  obtain ⟨g, _, _, _, hp⟩ := rat_eqs (t := t) h0
  exact ⟨hp, rat_gcd h0, rat_bd h0 ht, rat_bdB h0 hb⟩
/-- the same number, both in lowest terms -/
theorem low_eq {t b x y : Int} (hb : 0 < b) (hy : 0 < y) (g : Nat.gcd t.natAbs b.natAbs = 1) (k : Nat.gcd x.natAbs y.natAbs = 1) (e : t * y = x * b) : t = x ∧ b = y := by
  have e' : t.natAbs * y.natAbs = x.natAbs * b.natAbs := by rw [← Int.natAbs_mul, ← Int.natAbs_mul, e]
  have d1 : b.natAbs ∣ y.natAbs := by
    have : b.natAbs ∣ t.natAbs * y.natAbs := ⟨x.natAbs, by rw [e', Nat.mul_comm]⟩
    exact (Nat.Coprime.symm g).dvd_of_dvd_mul_left this
  have d2 : y.natAbs ∣ b.natAbs := by
    have : y.natAbs ∣ x.natAbs * b.natAbs := ⟨t.natAbs, by rw [← e', Nat.mul_comm]⟩
    exact (Nat.Coprime.symm k).dvd_of_dvd_mul_left this
  have eb : b.natAbs = y.natAbs := Nat.dvd_antisymm d1 d2
  have ey : b = y := by omega
  subst ey
  exact ⟨Int.eq_of_mul_eq_mul_right (by omega) e, rfl⟩
theorem rat_scale {a b k : Int} (hb : b ≠ 0) (hk : k ≠ 0) : rT (a * k) (b * k) = rT a b ∧ rB (a * k) (b * k) = rB a b := by
  have hbk : b * k ≠ 0 := Int.mul_ne_zero hb hk
  obtain ⟨g, hg, e1, e2, p1⟩ := rat_eqs (t := a) hb
  obtain ⟨h, hh, e3, e4, p2⟩ := rat_eqs (t := a * k) hbk
  refine low_eq p2 p1 (rat_gcd hbk) (rat_gcd hb) ?_
  refine Int.eq_of_mul_eq_mul_left (Int.mul_ne_zero hh hg) ?_
  generalize rT (a * k) (b * k) = A at *
  generalize rB (a * k) (b * k) = B at *
  generalize rT a b = P at *
  generalize rB a b = Q at *
  subst e1 e2
  grind
theorem Bd.addS {a b : Nat} {x y : Int} (h : Bd a x) (k : Bd b y) : Bd (a + b + 1) (x + y) := (h.mono (Nat.le_add_right a b)).add (k.mono (Nat.le_add_left b a))
theorem Bd.subS {a b : Nat} {x y : Int} (h : Bd a x) (k : Bd b y) : Bd (a + b + 1) (x - y) := (h.mono (Nat.le_add_right a b)).sub (k.mono (Nat.le_add_left b a))
theorem Ws.cut {W : WX} {E : ET} {t : TS} {r : Rho} {m : Mu} {P : DEnds} (I : Rho → Mu → Prop) (h : Ws W E t r m { P with nx := I }) (k : ∀ r' m', I r' m' → P.nx r' m') : Ws W E t r m P := fun s H De e z g =>
  h s H De e z ⟨fun r' m' s' H' a b q => g.nx r' m' s' H' a b (k r' m' q), g.rt, g.bk, g.ct⟩
end DL
set_option Elab.async false
set_option linter.all false
set_option maxRecDepth 100000
/-! DL10: short words for methods and own operators. -/
namespace DL
open PySem PySem.Spec L2
open PyProof.Rows hiding St
section
variable {W : WX} {E : ET} {r : Rho} {m : Mu} {K : KT} {G : Gx} {t : TA} {j k n : Nat} {C : Addr} {ns : List Str} {ds : List D} {S : SpecD} {dd : List D} {mt : Str}
theorem mt_of (M : Met G k C ns mt n S dd) (cs : dd.all isC = true) (hk : k ≤ j) (h : Wa W E t r m fun es m2 => (D.ins C ns ds :: (es ++ dd)).length = n ∧ S (D.ins C ns ds :: (es ++ dd)) m2 K fun x m' => E x r m') :
    ∃ (k n : Nat) (C' : Addr) (ns' : List Str) (S : SpecD) (dd : List D), Met G k C' ns' mt n S dd ∧ dd.all isC = true ∧ k ≤ j ∧ InsD (D.ins C ns ds) m C' ns' ∧
    Wa W E t r m fun es m2 => (D.ins C ns ds :: (es ++ dd)).length = n ∧ S (D.ins C ns ds :: (es ++ dd)) m2 K fun x m' => E x r m' := ⟨k, n, C, ns, S, dd, M, cs, hk, .fixed, h⟩
theorem mt_of0 (M : Met G k C ns mt n S []) (hk : k ≤ j) (h : Wa W E t r m fun es m2 => es.length + 1 = n ∧ S (D.ins C ns ds :: es) m2 K fun x m' => E x r m') :
    ∃ (k n : Nat) (C' : Addr) (ns' : List Str) (S : SpecD) (dd : List D), Met G k C' ns' mt n S dd ∧ dd.all isC = true ∧ k ≤ j ∧ InsD (D.ins C ns ds) m C' ns' ∧
    Wa W E t r m fun es m2 => (D.ins C ns ds :: (es ++ dd)).length = n ∧ S (D.ins C ns ds :: (es ++ dd)) m2 K fun x m' => E x r m' :=
  mt_of M rfl hk (h.imp fun es m2 k => by
    rw [List.append_nil]
    exact k)
variable {d d' : D} {ns' : List Str} {ds' : List D}
theorem w1_negO (O : Opr G k C "__neg__" 1 S) (hk : k ≤ j) (i : FldD d m C ns ds) (h : S [d] m K fun x m' => E x r m') : W1 W E (oNeg G j W) d r m K := fun s H Q v e z rv g => .inr (w1_own O hk i h s H Q v e z rv g)
theorem w2_addO (O : Opr G k C "__add__" 2 S) (hk : k ≤ j) (i : FldD d m C ns ds) (i' : FldD d' m C ns' ds') (h : S [d, d'] m K fun x m' => E x r m') : W2 W E (oAdd G j W) d d' r m K := fun s H Q a b e z ra rb g => .inr (.inr (.inr (.inr (w2_own O hk i i' h s H Q a b e z ra rb g))))
theorem w2_subO (O : Opr G k C "__sub__" 2 S) (hk : k ≤ j) (i : FldD d m C ns ds) (i' : FldD d' m C ns' ds') (h : S [d, d'] m K fun x m' => E x r m') : W2 W E (oSub G j W) d d' r m K := fun s H Q a b e z ra rb g => .inr (w2_own O hk i i' h s H Q a b e z ra rb g)
theorem w2_mulO (O : Opr G k C "__mul__" 2 S) (hk : k ≤ j) (i : FldD d m C ns ds) (i' : FldD d' m C ns' ds') (h : S [d, d'] m K fun x m' => E x r m') : W2 W E (oMul G j W) d d' r m K := fun s H Q a b e z ra rb g => .inr (.inr (w2_own O hk i i' h s H Q a b e z ra rb g))
end
end DL
set_option Elab.async false
set_option linter.all false
set_option maxRecDepth 100000
/-! DL11: tests within an except suite; what isinstance and except answer of own classes. -/
namespace DL
open PySem PySem.Spec L2
open PyProof.Rows hiding St
theorem pt_trS {X : Cx} {a : Addr} {pn : List (Addr × Obj)} {e : Expr} {te : TE} (ha : PE (X.suite a pn) e te) (he : ∀ whole, isTrue e (X.suite a pn).env whole = (do let v ← whole; standAt e.pos; holding [v] (truthy v)) := by intro _; rfl) : PT (X.suite a pn) e (tTr X.K te) := pt_tr ha he
theorem pe_isE {X : Cx} {a : Addr} {cls : Value} {d : Option Addr} {oe : Obj} {pn : List (Addr × Obj)} {e : Expr} {es : List Expr} {t : TA} {p pos : Pos} (hz : L2N.Zn cls d oe) (hf : ∃ vs, oe.data = .fields vs) (hm : X.mg "isinstance" = none) (ha : PA (X.suite a ((a, oe) :: pn)) (e :: es) t)
    (hg : Gl (X.suite a ((a, oe) :: pn)) "isinstance" := by rfl)
    (he : starEach (e :: es) X.env = (false, eval e X.env) :: starEach es X.env := by rfl) (hpl : (backTo pos (starEach es X.env)).any (·.1) = false := by rfl) : PE (X.suite a ((a, oe) :: pn)) (.Call (.Name "isinstance" p) (e :: es) [] pos) (tC2 (cIsE X.K a cls d) t) :=
  pe_cb (cs_isE hz hf) hg hm (by decide +kernel) ha (by decide) (by decide) he hpl
section
variable {K : PySem.W.Frag} {S O : Addr}
theorem kit_self : PySem.W.kitOne K (.ref S) (.ref S) = some true := by
  unfold PySem.W.kitOne
  rw [if_pos]
  simp
theorem kit_no (hx : PySem.W.subIn K (.ref S) (.ref S) = some true) (h2 : PySem.W.isClsIn K O = true) (h3 : PySem.W.typeIn K (.ref O) = some (.type "type")) (h4 : PySem.W.subIn K (.ref S) (.ref O) = some false) : PySem.W.kitOne K (.ref S) (.ref O) = some false := by
  have ne : ¬ ((Value.ref S == Value.ref O) = true) := fun z => by
    have e : S = O := by simpa using z
    subst e
    rw [hx] at h4
    cases h4
  have e2 : ((PySem.W.clsIn K O).isSome && PySem.W.typeIn K (.ref O) == some (.type "type")) = true := by
    have h2' : (PySem.W.clsIn K O).isSome = true := h2
    rw [h2', h3] <;> rfl
  unfold PySem.W.kitOne
  rw [if_neg ne]
  show (if ((PySem.W.clsIn K O).isSome && PySem.W.typeIn K (.ref O) == some (.type "type")) = true then PySem.W.subIn K (.ref S) (.ref O) else none) = some false
  rw [if_pos e2]
  exact h4
theorem kit_val (h : PySem.W.subIn K (.ref S) (.type "ValueError") = some true) : PySem.W.kitOne K (.ref S) (.type "ValueError") = some true := h
end
end DL
set_option Elab.async false
set_option linter.all false
set_option maxRecDepth 100000
/-! DL12: in, by an own __contains__. -/
namespace DL
open PySem PySem.Spec L2
open PyProof.Rows hiding St
section
variable {X : Cx} {W : WX} {E : ET} {r : Rho} {m : Mu} {K : KT} {G : Gx} {j k : Nat} {C : Addr} {ns : List Str} {ds : List D} {S : SpecD} {d d' : D}
def oInO (G : Gx) (j : Nat) (W : WX) : O2 := fun x y σ H Q => ∃ (a C dx : Addr) (fs : List (Str × V)) (k : Nat) (S : SpecD), y = .ref a ∧ H a = some (.ins C dx fs) ∧ k ≤ j ∧ Opr G k C "__contains__" 2 S ∧ spD 2 S [y, x] H (fun v H' => ∃ b, v = .bl b ∧ Q (.bl b) H') (WE W σ)
theorem os_inO (hr : Room j X.A) (tk : L2N.Takes X W) : OpS X (compareOp .In) (oInO (Gx.of X) j W) := by
  intro pins s σ H x y u v Q I rx ry h
  obtain ⟨a, C, dx, fs, k, S, rfl, ha, hk, O, q⟩ := h
  obtain rfl : v = Value.ref a := ry
  obtain ⟨f, ⟨⟨fd, ps, ds, F, bd, d⟩, cs⟩, h1, h2⟩ := O.ex
  obtain ⟨od, J⟩ := inst_of I ha
  obtain ⟨m, fr⟩ := I.fr
  refine PySem.W.in_K fr I.ok.mod.kin J h1 h2 ?_
  refine wpAny_mono (run_fnSD (E := WE W) (us := [.ref a, u]) (vs := [.ref a, x]) F (hr.mono hk) bd d (L2N.passAt tk σ) I (.cons rfl (.cons rx .nil)) q) (fun w s' hq => ?_) fun _ _ z => z
  obtain ⟨v', H1, I1, r1, b, rfl, q1⟩ := hq
  cases r1
  exact wpAny_truthy_bool ⟨.bl b, H1, I1, rfl, q1⟩
theorem w2_inO {d d' : D} (O : Opr G k C "__contains__" 2 S) (hk : k ≤ j) (i : FldD d' m C ns ds) (h : S [d', d] m (fun x m' => ∃ b, x = .bl b ∧ K (.bl b) m') fun x m' => E x r m') : W2 W E (oInO G j W) d d' r m K := fun s H Q a b e z ra rb g => by
  obtain ⟨p, dx, gs, rfl, hp, _⟩ := i.look e.mu rb
  refine ⟨p, C, dx, gs, k, S, rfl, hp, hk, O, spD_of rfl e z (fun d m' v H' s1 mu1 r1 q => ?_) (.cons rb (.cons ra .nil)) h fun _ _ q => q⟩
  obtain ⟨b, rfl, q⟩ := q
  cases r1
  exact ⟨b, rfl, g _ m' _ H' s1 mu1 (.bl b) q⟩
end
end DL
namespace DL
open PySem PySem.Spec L2
open PyProof.Rows hiding St
/-! ==, by an own __eq__ (both of the class) -/
section
variable {X : Cx} {W : WX} {E : ET} {r : Rho} {m : Mu} {K : KT} {G : Gx} {j k : Nat} {C : Addr} {ns ns' : List Str} {ds ds' : List D} {S : SpecD} {d d' : D}
structure OprEq (G : Gx) (k : Nat) (C : Addr) (S : SpecD) : Prop where
  o : Opr G k C "__eq__" 2 S
  nf : PySem.W.notFirst G.K C (.ref C) = true
def oEqO (G : Gx) (j : Nat) (W : WX) : O2 := fun x y σ H Q => ∃ (a b C dx dy : Addr) (fs gs : List (Str × V)) (k : Nat) (S : SpecD), x = .ref a ∧ y = .ref b ∧ H a = some (.ins C dx fs) ∧ H b = some (.ins C dy gs) ∧ k ≤ j ∧ OprEq G k C S ∧ spD 2 S [x, y] H Q (WE W σ)
theorem os_eqO (hr : Room j X.A) (tk : L2N.Takes X W) : OpS X (compareOp .Eq) (oEqO (Gx.of X) j W) := by
  intro pins s σ H x y u v Q I rx ry h
  obtain ⟨a, b, C, dx, dy, fs, gs, k, S, rfl, rfl, ha, hb, hk, O, q⟩ := h
  obtain rfl : u = Value.ref a := rx
  obtain rfl : v = Value.ref b := ry
  obtain ⟨f, ⟨⟨fd, ps, ds, F, bd, d⟩, cs⟩, h1, h2⟩ := O.o.ex
  obtain ⟨od, J⟩ := inst_of I ha
  obtain ⟨od', J'⟩ := inst_of I hb
  obtain ⟨m, fr⟩ := I.fr
  show wpAny (model X.prog X.w) X.A (richCompare .Eq (.ref a) (.ref b)) (EP X pins σ Q) X.xe s
  refine PySem.W.cmp_K (Nat.lt_of_succ_lt (hu_of hr)) fr I.ok.mod.kin J J'.type O.nf h1 h2 ?_
  exact wpAny_mono (run_fnSD (E := WE W) (us := [.ref a, .ref b]) (vs := [.ref a, .ref b]) F (hr.mono hk) bd d (L2N.passAt tk σ) I (.cons rfl (.cons rfl .nil)) q) (fun r s' hq => back_of hq) fun _ _ z => z
theorem w2_eqO (O : OprEq G k C S) (hk : k ≤ j) (i : FldD d m C ns ds) (i' : FldD d' m C ns' ds') (h : S [d, d'] m K fun x m' => E x r m') : W2 W E (oEqO G j W) d d' r m K := fun s H Q a b e z ra rb g => by
  obtain ⟨p, dx, gs, rfl, hp, _⟩ := i.look e.mu ra
  obtain ⟨p', dx', gs', rfl, hp', _⟩ := i'.look e.mu rb
  exact ⟨p, p', C, dx, dx', gs, gs', k, S, rfl, rfl, hp, hp', hk, O, spD_of rfl e z g (.cons ra (.cons rb .nil)) h fun _ _ q => q⟩
end
end DL
namespace DL
open PySem PySem.Spec L2
open PyProof.Rows hiding St
theorem pe_fldK {X : Cx} {KK : PySem.W.Frag} {e : Expr} {ta : TE} {f : Str} {pos : Pos} (hk : X.K = KK) (he : PE X e ta) (hb : attributeBase e f X.env (eval e X.env) = eval e X.env) : PE X (.Attribute e f pos) (tFld KK ta f) := by
  subst hk
  exact pe_fld he hb
section
variable {X : Cx} {W : WX} {mt : Str} {j : Nat} {e o : Expr} {es : List Expr} {t : TA} {to : TE} {pos apos : Pos}
theorem pe_mthG {pl : Sem Bool} (G : Gx) (hG : Gx.of X = G) (hr : Room j X.A) (tk : L2N.Takes X W) (he : PE X o to) (ha : PA X (e :: es) t)
    (hst : starEach (e :: es) X.env = (false, eval e X.env) :: starEach es X.env := by rfl) (hpl : (backTo pos (starEach es X.env)).any (·.1) = false := by rfl)
    (ht : eval (.Call (.Attribute o mt apos) (e :: es) [] pos) X.env = (do
      let ov ← eval o X.env
      standAt apos.atName
      let (f, first) ← holding [ov] (getMethod ov mt pl)
      callWith pos f first (backTo pos (starEach (e :: es) X.env)) (backToKw pos (keywordEach [] X.env))) := by rfl) :
    PE X (.Call (.Attribute o mt apos) (e :: es) [] pos) (tMt G j W mt to t) := by
  subst hG
  exact pe_mth hr tk he ha hst hpl ht
theorem pe_mth0G {pl : Sem Bool} (G : Gx) (hG : Gx.of X = G) (hr : Room j X.A) (tk : L2N.Takes X W) (he : PE X o to)
    (ht : eval (.Call (.Attribute o mt apos) [] [] pos) X.env = (do
      let ov ← eval o X.env
      standAt apos.atName
      let (f, first) ← holding [ov] (getMethod ov mt pl)
      callWith pos f first (backTo pos (starEach [] X.env)) (backToKw pos (keywordEach [] X.env))) := by rfl) :
    PE X (.Call (.Attribute o mt apos) [] [] pos) (tMt G j W mt to tNil) := by
  subst hG
  exact pe_mth0 hr tk he ht
end
end DL
set_option Elab.async false
set_option linter.all false
set_option maxRecDepth 100000
/-! DL13: == and != of all kinds: plain data, an own __eq__ on either side. -/
namespace PySem.SeqAt
open AutoSeq1 (wpAny_loadPart')
open MeetsSeq PySem.W
section
variable {prog : Program} {w : World} {A : Around} {E : Value → Shared → Prop} {s : Shared} {K : Frag} {x C : Addr} {ox : Obj} {od : Option Obj}
theorem isInst_own {M : Model} {T : String} {Q : Bool → Shared → Prop} (X : K.In s.heap) (I : PySem.W.InstAt s.heap x ox C od) (h : subIn K (.ref C) (.type T) = some false) (q : Q false s) : wpAny M A (isInstance (.ref x) (.type T)) Q E s := by
  unfold isInstance
  exact wpAny_bind (I.type.here ((looks_subIn X h).here q))
theorem list_eq_own (l : Addr) (items : Array Value) (n : Nat) (dd : Option Addr) (sl : Array (Option Value)) (hs : subIn K (.ref C) (.type "list") = some false) :
    Meets (Builtin.«list.__eq__» ⟨[.ref l, .ref x], []⟩) (fun _ R s => s.heap.get? l = some { cls := .type "list", dict := dd, data := .seq items n, slots := sl } ∧ K.In s.heap ∧ PySem.W.InstAt s.heap x ox C od ∧ R (.ok (.ret .notImplemented)) s) :=
  .of_wp fun prog w A R s h => by
    obtain ⟨hl, X, I, h⟩ := h
    have f1 : ∀ {M : Model} {A : Around} {E : Value → Shared → Prop} {Q : Bool → Shared → Prop}, Q false s → wpAny M A (isInstance (.ref x) (.type "list")) Q E s := fun q => isInst_own X I hs q
    obtain ⟨hp, g, d, tk, os⟩ := s
    wp_walk using wpAny_loadPart' hl, f1
    exact ⟨_, rfl, h⟩
theorem tuple_eq_own (l : Addr) (items : Array Value) (n : Nat) (dd : Option Addr) (sl : Array (Option Value)) (hs : subIn K (.ref C) (.type "tuple") = some false) :
    Meets (Builtin.«tuple.__eq__» ⟨[.ref l, .ref x], []⟩) (fun _ R s => s.heap.get? l = some { cls := .type "tuple", dict := dd, data := .seq items n, slots := sl } ∧ K.In s.heap ∧ PySem.W.InstAt s.heap x ox C od ∧ R (.ok (.ret .notImplemented)) s) :=
  .of_wp fun prog w A R s h => by
    obtain ⟨hl, X, I, h⟩ := h
    have f1 : ∀ {M : Model} {A : Around} {E : Value → Shared → Prop} {Q : Bool → Shared → Prop}, Q false s → wpAny M A (isInstance (.ref x) (.type "tuple")) Q E s := fun q => isInst_own X I hs q
    obtain ⟨hp, g, d, tk, os⟩ := s
    wp_walk using wpAny_loadPart' hl, f1
    exact ⟨_, rfl, h⟩
theorem int_eq_own (b : Int) (u : Tok) (dx : Addr) :
    Meets (Builtin.«int.__eq__» ⟨[.int b u, .ref x], []⟩) (fun _ R s => s.heap.get? x = some (instObj C dx) ∧ R (.ok (.ret .notImplemented)) s) :=
  .of_wp fun prog w A R s h => by
    obtain ⟨hp, g, d, tk, os⟩ := s
    obtain ⟨hl, h⟩ := h
    wp_walk using wpAny_loadPart' hl, wpAny_load hl
    exact ⟨_, rfl, h⟩
theorem str_eq_own (b : Str) (u : Tok) (dx : Addr) :
    Meets (Builtin.«str.__eq__» ⟨[.str b u, .ref x], []⟩) (fun _ R s => s.heap.get? x = some (instObj C dx) ∧ R (.ok (.ret .notImplemented)) s) :=
  .of_wp fun prog w A R s h => by
    obtain ⟨hp, g, d, tk, os⟩ := s
    obtain ⟨hl, h⟩ := h
    wp_walk using wpAny_loadPart' hl, wpAny_load hl
    exact ⟨_, rfl, h⟩
end
end PySem.SeqAt
namespace PySem.W
open PySem.SeqAt MeetsSeq
section
variable {prog : Program} {w : World} {A : Around} {E : Value → Shared → Prop} {s : Shared} {K : Frag} {x C f : Addr} {ox : Obj} {od : Option Obj} {a : Value} {T id : String}
/-- a builtin's value == an own instance: the value's own == declines, the instance's is asked -/
theorem cmp_refl {Q : Value → Shared → Prop} (hu : A.units < cLine) (X : K.In s.heap) (I : InstAt s.heap x ox C od) (ha : s.TypeIs a T) (hsub : subIn K (.ref C) (.type T) = some false)
    (h1 : Slot T (cmpInfo .Eq).2.1 id) (hc : ∀ Q' : Value → Shared → Prop, Q' .notImplemented s → wpAny (model prog w) A (call (.builtin id) [a, .ref x]) Q' E s)
    (hs : findIn K (.ref C) "__eq__" = some (some (.ref f))) (hf : isFn K (.ref f) = true)
    (h : wpAny (model prog w) A (call (.ref f) [.ref x, a]) (CmpBack Q) E s) : wpAny (model prog w) A (richCompare .Eq a (.ref x)) Q E s := by
  have one : wpAny (model prog w) A (tryCompare (.ref x) "__eq__" a) (fun r s' => ∃ v, r = some v ∧ Q v s') E s := by
    unfold tryCompare
    refine wpAny_bind (ifBound_K X I hs hf (wpAny_mono h (fun v s' hv => ?_) fun _ _ e => e))
    cases v <;> first | exact hv.elim | exact wpAny_pure ⟨_, rfl, hv⟩
  rcases hi : cmpInfo CmpOp.Eq with ⟨sym, ff, r⟩
  rw [hi] at h1
  have er : r = "__eq__" := by
    have : (cmpInfo CmpOp.Eq).2.2 = "__eq__" := rfl
    rw [hi] at this
    exact this
  subst er
  simp only [richCompare, hi, ha.oneThing_none]
  refine wpAny_holding ?_
  refine wpAny_bind (wpAny_cRoomFor hu ?_)
  refine wpAny_bind (wpAny_typeOf ha (wpAny_bind (I.type.here ?_)))
  have ne : (Value.type T != Value.ref C) = true := rfl
  simp only [ne, if_true]
  refine wpAny_bind ((looks_subIn X hsub).here ?_)
  simp only [Bool.false_eq_true, if_false, Bool.not_false, if_true]
  refine wpAny_bind (m := tryCompare a _ _) (wpAny_tryCompare_declines ha h1 (hc _ ⟨rfl, ?_⟩))
  refine wpAny_bind (m := tryCompare (.ref x) _ a) (wpAny_mono one (fun r s' z => ?_) fun _ _ e => e)
  obtain ⟨v, rfl, hq⟩ := z
  exact wpAny_pure hq
end
end PySem.W
namespace DL
open PySem PySem.Spec L2
open PyProof.Rows hiding St
/-! ### == and !=: all kinds -/
mutual
/-- a plain datum -/
inductive PD : D → PyData → Prop
  | non : PD .non .none
  | bl (b : Bool) : PD (.bl b) (.bool b)
  | int (i : Int) : PD (.int i) (.int i)
  | str (x : Str) : PD (.str x) (.str x)
  | tup {xs : List D} {ps : List PyData} (h : PDs xs ps) : PD (.tup xs) (.tuple ps)
  | lst {xs : List D} {ps : List PyData} (h : PDs xs ps) : PD (.lst xs) (.list ps)
inductive PDs : List D → List PyData → Prop
  | nil : PDs [] []
  | cons {x : D} {p : PyData} {xs : List D} {ps : List PyData} (h : PD x p) (t : PDs xs ps) : PDs (x :: xs) (p :: ps)
end
mutual
theorem PD.dp {K : PySem.W.Frag} {M : Addr → Prop} {H : Hp} : ∀ {d : D} {p : PyData} {v : V}, PD d p → Rep M H d v → Dp K H v p
  | _, _, _, .non, .non => .non
  | _, _, _, .bl b, .bl _ => .bl b
  | _, _, _, .int i, .int _ => .int i
  | _, _, _, .str x, .str _ => .str x
  | _, _, _, .tup h, .tup m hh r => .tup (rd_t hh) (PDs.dp h r)
  | _, _, _, .lst h, .lst m hh r => .lst (rd_l hh) (PDs.dp h r)
theorem PDs.dp {K : PySem.W.Frag} {M : Addr → Prop} {H : Hp} : ∀ {d : List D} {p : List PyData} {v : List V}, PDs d p → Reps M H d v → DpAll K H v p
  | _, _, _, .nil, .nil => .nil
  | _, _, _, .cons h t, .cons r q => .cons (PD.dp h r) (PDs.dp t q)
end
section
variable {X : Cx} {W : WX} {j : Nat}
/-- an own instance with an own __eq__ on the left -/
def oOwnL (G : Gx) (j : Nat) (W : WX) : O2 := fun x y σ H Q => ∃ (a C dx : Addr) (fs : List (Str × V)) (k : Nat) (S : SpecD) (t : Value), x = .ref a ∧ H a = some (.ins C dx fs) ∧ TyX G.K H y t ∧ PySem.W.notFirst G.K C t = true ∧ k ≤ j ∧ Opr G k C "__eq__" 2 S ∧ spD 2 S [x, y] H Q (WE W σ)
theorem os_ownL (hr : Room j X.A) (tk : L2N.Takes X W) : OpS X (compareOp .Eq) (oOwnL (Gx.of X) j W) := by
  intro pins s σ H x y u v Q I rx ry h
  obtain ⟨a, C, dx, fs, k, S, t, rfl, ha, ty, nf, hk, O, q⟩ := h
  obtain rfl : u = Value.ref a := rx
  obtain ⟨f, ⟨⟨fd, ps, ds, F, bd, d⟩, cs⟩, h1, h2⟩ := O.ex
  obtain ⟨od, J⟩ := inst_of I ha
  obtain ⟨P, Z, hp, _⟩ := kit_of I ry ty
  obtain ⟨m, fr⟩ := I.fr
  show wpAny (model X.prog X.w) X.A (richCompare .Eq (.ref a) v) (EP X pins σ Q) X.xe s
  refine PySem.W.cmp_K (Nat.lt_of_succ_lt (hu_of hr)) fr I.ok.mod.kin J (Z.ty _ _ I.kIn hp) nf h1 h2 ?_
  exact wpAny_mono (run_fnSD (E := WE W) (us := [.ref a, v]) (vs := [.ref a, y]) F (hr.mono hk) bd d (L2N.passAt tk σ) I (.cons rfl (.cons ry .nil)) q) (fun r s' hq => back_of hq) fun _ _ z => z
/-- a builtin's value, by its type -/
inductive BkV (K : PySem.W.Frag) (H : Hp) : V → String → Prop
  | non : BkV K H .non "NoneType"
  | int (i : Int) : BkV K H (.int i) "int"
  | str (x : Str) : BkV K H (.str x) "str"
  | lst {a : Addr} {xs : List V} (h : SqL K H a xs) : BkV K H (.ref a) "list"
  | tup {a : Addr} {xs : List V} (h : SqT K H a xs) : BkV K H (.ref a) "tuple"
/-- .. on the right -/
def oOwnR (G : Gx) (j : Nat) (W : WX) : O2 := fun x y σ H Q => ∃ (a C dx : Addr) (fs : List (Str × V)) (k : Nat) (S : SpecD) (T : String), y = .ref a ∧ H a = some (.ins C dx fs) ∧ BkV G.K H x T ∧ PySem.W.subIn G.K (.ref C) (.type T) = some false ∧ k ≤ j ∧ Opr G k C "__eq__" 2 S ∧ spD 2 S [y, x] H Q (WE W σ)
theorem os_ownR (hr : Room j X.A) (tk : L2N.Takes X W) : OpS X (compareOp .Eq) (oOwnR (Gx.of X) j W) := by
  intro pins s σ H x y u v Q I rx ry h
  obtain ⟨a, C, dx, fs, k, S, T, rfl, ha, bk, sb, hk, O, q⟩ := h
  obtain rfl : v = Value.ref a := ry
  obtain ⟨f, ⟨⟨fd, ps, ds, F, bd, d⟩, cs⟩, h1, h2⟩ := O.ex
  obtain ⟨od, J⟩ := inst_of I ha
  have hu := Nat.lt_of_succ_lt (hu_of hr)
  have run : wpAny (model X.prog X.w) X.A (call (.ref f) [.ref a, u]) (PySem.W.CmpBack (EP X pins σ Q)) X.xe s :=
    wpAny_mono (run_fnSD (E := WE W) (us := [.ref a, u]) (vs := [.ref a, x]) F (hr.mono hk) bd d (L2N.passAt tk σ) I (.cons rfl (.cons rx .nil)) q) (fun r s' hq => back_of hq) fun _ _ z => z
  show wpAny (model X.prog X.w) X.A (richCompare .Eq u (.ref a)) (EP X pins σ Q) X.xe s
  cases bk with
  | non =>
    cases (show u = Value.none from rx)
    exact PySem.W.cmp_refl hu I.kIn J rfl sb PySem.F.slot_NoneType_eq (fun _ hq => call_gives PySem.F.slot_NoneType_eq rfl PySem.F.entry_NoneType_eq (PySem.F.args_NoneType_eq_2 _ _) (PySem.SeqAt.NoneType___eq___none_ref_0 a) hq) h1 h2 run
  | int i =>
    obtain ⟨t, e⟩ := (show ∃ t, u = Value.int i t from rx)
    cases e
    exact PySem.W.cmp_refl hu I.kIn J (typeIs_int s i t) sb PySem.F.slot_int_eq (fun _ hq => call_meets PySem.F.slot_int_eq (typeIs_int s i t) PySem.F.entry_int_eq (PySem.F.args_int_eq_2 _ _) (PySem.SeqAt.int_eq_own i t dx) ⟨J.at_, hq⟩) h1 h2 run
  | str i =>
    obtain ⟨t, e⟩ := (show ∃ t, u = Value.str i t from rx)
    cases e
    exact PySem.W.cmp_refl hu I.kIn J (typeIs_str s i t) sb PySem.F.slot_str_eq (fun _ hq => call_meets PySem.F.slot_str_eq (typeIs_str s i t) PySem.F.entry_str_eq (PySem.F.args_str_eq_2 _ _) (PySem.SeqAt.str_eq_own i t dx) ⟨J.at_, hq⟩) h1 h2 run
  | @lst l xs hh =>
    cases (show u = Value.ref l from rx)
    obtain ⟨its, rv, p, hz⟩ := I.list hh
    obtain ⟨⟨cls, dd, data, sl⟩, ho, hc, n, hd⟩ := id p.isList
    simp only at hc hd
    subst hc hd
    exact PySem.W.cmp_refl hu I.kIn J ⟨_, ho, rfl⟩ sb PySem.F.slot_list_eq (fun _ hq => call_meets PySem.F.slot_list_eq ⟨_, ho, rfl⟩ PySem.F.entry_list_eq (PySem.F.args_list_eq_2 _ _) (PySem.SeqAt.list_eq_own l _ n dd sl sb) ⟨ho, I.kIn, J, hq⟩) h1 h2 run
  | @tup l xs hh =>
    cases (show u = Value.ref l from rx)
    obtain ⟨its, rv, p, hz⟩ := I.tuple hh
    obtain ⟨⟨cls, dd, data, sl⟩, ho, hc, n, hd⟩ := id (show s.heap.IsTuple l its.toArray from p)
    simp only at hc hd
    subst hc hd
    exact PySem.W.cmp_refl hu I.kIn J ⟨_, ho, rfl⟩ sb PySem.F.slot_tuple_eq (fun _ hq => call_meets PySem.F.slot_tuple_eq ⟨_, ho, rfl⟩ PySem.F.entry_tuple_eq (PySem.F.args_tuple_eq_2 _ _) (PySem.SeqAt.tuple_eq_own l _ n dd sl sb) ⟨ho, I.kIn, J, hq⟩) h1 h2 run
def oEqF (G : Gx) (j : Nat) (W : WX) : O2 := fun x y s H Q => rEq x y H Q ∨ (rEqD G.K x y H Q ∨ (oOwnL G j W x y s H Q ∨ oOwnR G j W x y s H Q))
def oNeF (G : Gx) (j : Nat) (W : WX) : O2 := fun x y s H Q => rNe x y H Q ∨ rNeD G.K x y H Q
theorem os_eqF (hr : Room j X.A) (tk : L2N.Takes X W) : OpS X (compareOp .Eq) (oEqF (Gx.of X) j W) := (OpS.of op_eq).or ((OpS.of (op_eqD hr.units)).or ((os_ownL hr tk).or (os_ownR hr tk)))
theorem os_neF (hr : Room j X.A) (tk : L2N.Takes X W) : OpS X (compareOp .NotEq) (oNeF (Gx.of X) j W) := (OpS.of op_ne).or (OpS.of (op_neD hr.units))
end
/-! ### what they do to trees -/
section
variable {W : WX} {E : ET} {r : Rho} {m : Mu} {K : KT} {G : Gx} {j k : Nat} {C : Addr} {ns : List Str} {ds : List D} {S : SpecD} {d d' : D}
theorem w2_eqFI {i k : Int} (h : K (.bl (decide (i = k))) m) : W2 W E (oEqF G j W) (.int i) (.int k) r m K := w2_val (fun _ _ _ => rint) (fun _ _ _ => rint) (fun _ _ => .bl _) (fun _ _ _ q => .inl ⟨rfl, by rw [dec_int, ← Bool.beq_eq_decide_eq] at *; exact q⟩) h
theorem w2_neFI {i k : Int} (h : K (.bl (!decide (i = k))) m) : W2 W E (oNeF G j W) (.int i) (.int k) r m K := w2_val (fun _ _ _ => rint) (fun _ _ _ => rint) (fun _ _ => .bl _) (fun _ _ _ q => .inl ⟨rfl, by rw [dec_int, ← Bool.beq_eq_decide_eq] at *; exact q⟩) h
theorem w2_eqFD {p q : PyData} (h1 : PD d p) (h2 : PD d' q) (s1 : SeqAt.shaped p = true) (s2 : SeqAt.shaped q = true) (h : K (.bl (PyData.eqv p q)) m) : W2 W E (oEqF G j W) d d' r m K := fun s H Q a b e z ra rb g =>
  .inr (.inl ⟨p, q, h1.dp ra, h2.dp rb, s1, s2, g _ m _ H (Stp.refl _ _) e.mu (.bl _) h⟩)
theorem w2_neFD {p q : PyData} (h1 : PD d p) (h2 : PD d' q) (s1 : SeqAt.shaped p = true) (s2 : SeqAt.shaped q = true) (h : K (.bl (!PyData.eqv p q)) m) : W2 W E (oNeF G j W) d d' r m K := fun s H Q a b e z ra rb g =>
  .inr ⟨p, q, h1.dp ra, h2.dp rb, s1, s2, g _ m _ H (Stp.refl _ _) e.mu (.bl _) h⟩
theorem w2_eqFs {p : PyData} (h1 : PD d p) (s1 : SeqAt.shaped p = true) (h : K (.bl true) m) : W2 W E (oEqF G j W) d d r m K := w2_eqFD h1 h1 s1 s1 (by rw [PySem.SeqAt.eqv_refl p (SeqAt.canLay_of_shaped s1)]; exact h)
theorem w2_neFs {p : PyData} (h1 : PD d p) (s1 : SeqAt.shaped p = true) (h : K (.bl false) m) : W2 W E (oNeF G j W) d d r m K := w2_neFD h1 h1 s1 s1 (by rw [PySem.SeqAt.eqv_refl p (SeqAt.canLay_of_shaped s1)]; exact h)
/-- the instance on the left -/
theorem w2_eqFL {t : Value} (O : Opr G k C "__eq__" 2 S) (hk : k ≤ j) (i : FldD d m C ns ds) (ty : TyD G d' m t) (nf : PySem.W.notFirst G.K C t = true) (h : S [d, d'] m K fun x m' => E x r m') : W2 W E (oEqF G j W) d d' r m K := fun s H Q a b e z ra rb g => by
  obtain ⟨p, dx, gs, rfl, hp, _⟩ := i.look e.mu ra
  exact .inr (.inr (.inl ⟨p, C, dx, gs, k, S, t, rfl, hp, ty.ok rb, nf, hk, O, spD_of rfl e z g (.cons ra (.cons rb .nil)) h fun _ _ q => q⟩))
inductive BkD : D → String → Prop
  | non : BkD .non "NoneType"
  | int (i : Int) : BkD (.int i) "int"
  | str (x : Str) : BkD (.str x) "str"
  | lst (xs : List D) : BkD (.lst xs) "list"
  | tup (xs : List D) : BkD (.tup xs) "tuple"
theorem BkD.ok {KF : PySem.W.Frag} {M : Addr → Prop} {H : Hp} {T : String} {v : V} (b : BkD d T) (rp : Rep M H d v) : BkV KF H v T := by
  cases b with
  | non => cases rp; exact .non
  | int i => cases rp; exact .int i
  | str i => cases rp; exact .str i
  | lst xs =>
    cases rp with
    | lst mm hh rs => exact .lst (rd_l hh)
  | tup xs =>
    cases rp with
    | tup mm hh rs => exact .tup (rd_t hh)
/-- .. on the right of a builtin's value -/
theorem w2_eqFR {T : String} (O : Opr G k C "__eq__" 2 S) (hk : k ≤ j) (i : FldD d' m C ns ds) (b : BkD d T) (sb : PySem.W.subIn G.K (.ref C) (.type T) = some false) (h : S [d', d] m K fun x m' => E x r m') : W2 W E (oEqF G j W) d d' r m K := fun s H Q a b' e z ra rb g => by
  obtain ⟨p, dx, gs, rfl, hp, _⟩ := i.look e.mu rb
  exact .inr (.inr (.inr ⟨p, C, dx, gs, k, S, T, rfl, hp, b.ok ra, sb, hk, O, spD_of rfl e z g (.cons rb (.cons ra .nil)) h fun _ _ q => q⟩))
end
/-! ### all of a list of bools; str of a number -/
section
variable {X : Cx} {W : WX} {E : ET} {r : Rho} {m : Mu} {K : KT} {G : Gx}
def cAll (G : Gx) : OC := fun xs _ H Q => rAll G.K xs H Q
theorem cs_all (hc : X.calm = true) : CallS X (.builtin "all") (cAll (Gx.of X)) := CallS.of (cr_all hc)
def cAny (G : Gx) : OC := fun xs _ H Q => rAny G.K xs H Q
theorem cs_any (hc : X.calm = true) : CallS X (.builtin "any") (cAny (Gx.of X)) := CallS.of (cr_any hc)
theorem rep_bls {M : Addr → Prop} {H : Hp} : ∀ {bs : List Bool} {vs : List V}, Reps M H (bs.map D.bl) vs → vs = bs.map V.bl
  | [], _, .nil => rfl
  | b :: bs, _, .cons (.bl _) t => by rw [rep_bls t]; rfl
theorem wc_all {ds : List D} {bs : List Bool} (e : ds = bs.map D.bl) (h : K (.bl (bs.all id)) m) : Wc W E (cAll G) [.lst ds] r m K := fun s H Q vs e0 z rs g => by
  subst e
  cases rs with
  | cons a tt =>
    cases tt
    cases a with
    | @lst a _ vs mm hh rr =>
      have e1 := rep_bls rr
      subst e1
      exact ⟨a, bs, rfl, rd_l hh, g _ m _ H (Stp.refl _ _) e0.mu (.bl _) h⟩
theorem wc_any {ds : List D} {bs : List Bool} (e : ds = bs.map D.bl) (h : K (.bl (bs.any id)) m) : Wc W E (cAny G) [.lst ds] r m K := fun s H Q vs e0 z rs g => by
  subst e
  cases rs with
  | cons a tt =>
    cases tt
    cases a with
    | @lst a _ vs mm hh rr =>
      have e1 := rep_bls rr
      subst e1
      exact ⟨a, bs, rfl, rd_l hh, g _ m _ H (Stp.refl _ _) e0.mu (.bl _) h⟩
def cStrI : OC := fun xs _ H Q => ∃ i, xs = [.int i] ∧ i.natAbs.log2 < 1920 ∧ Q (.str (toString i)) H
theorem cs_strI : CallS X (.type "str") cStrI := CallS.of call_str_int
theorem wc_strI {i : Int} (hb : i.natAbs.log2 < 1920) (h : K (.str (toString i)) m) : Wc W E cStrI [.int i] r m K := fun s H Q vs e z rs g => by
  cases rs with
  | cons a tt =>
    cases tt
    cases a
    exact ⟨i, rfl, hb, g _ m _ H (Stp.refl _ _) e.mu (.str _) h⟩
end
/-! ### an own == against the builtin kinds -/
def kinds5 : List String := ["NoneType", "int", "str", "list", "tuple"]
structure KindsC (G : Gx) (C : Addr) : Prop where
  kt : ∀ T ∈ kinds5, PySem.W.kitOne G.K (.type T) (.ref C) = some false
  sb : ∀ T ∈ kinds5, PySem.W.subIn G.K (.ref C) (.type T) = some false
  nf : ∀ T ∈ kinds5, PySem.W.notFirst G.K C (.type T) = true
theorem BkD.ty {G : Gx} {m : Mu} {d : D} {T : String} (b : BkD d T) : TyD G d m (.type T) := by
  cases b <;> constructor
theorem BkD.mem {d : D} {T : String} (b : BkD d T) : T ∈ kinds5 := by
  cases b <;> simp [kinds5]
theorem nf_self {K : PySem.W.Frag} {C : Addr} : PySem.W.notFirst K C (.ref C) = true := by simp [PySem.W.notFirst]
theorem kit_noT {K : PySem.W.Frag} {O : Addr} {T : String} (h2 : PySem.W.isClsIn K O = true) (h3 : PySem.W.typeIn K (.ref O) = some (.type "type")) (h4 : PySem.W.subIn K (.type T) (.ref O) = some false) : PySem.W.kitOne K (.type T) (.ref O) = some false := by
  have ne : ¬ ((Value.type T == Value.ref O) = true) := fun z => by simp at z
  have e2 : ((PySem.W.clsIn K O).isSome && PySem.W.typeIn K (.ref O) == some (.type "type")) = true := by
    have h2' : (PySem.W.clsIn K O).isSome = true := h2
    rw [h2', h3] <;> rfl
  unfold PySem.W.kitOne
  rw [if_neg ne]
  show (if ((PySem.W.clsIn K O).isSome && PySem.W.typeIn K (.ref O) == some (.type "type")) = true then PySem.W.subIn K (.type T) (.ref O) else none) = some false
  rw [if_pos e2]
  exact h4
theorem nf_of {K : PySem.W.Frag} {A B : Addr} (h : PySem.W.subIn K (.ref B) (.ref A) = some false) : PySem.W.notFirst K A (.ref B) = true := by simp [PySem.W.notFirst, h]
end DL
set_option Elab.async false
set_option linter.all false
set_option maxRecDepth 100000
/-! DL14: static methods, &, texts put together, == of plain data in except suites. -/
namespace DL
open PySem PySem.Spec L2
open PyProof.Rows hiding St
/-- a static method mt of the class at C -/
structure Sta (G : Gx) (k : Nat) (C : Addr) (mt : Str) (n : Nat) (S : SpecD) : Prop where
  ex : ∃ (f p : Addr) (rr : List Value), Fnx G k f n S [] ∧ ClX.CRead G.K C (.type "type") ∧ PySem.W.findCls G.K (.ref C) (.type "type") mt = some (.get (.builtin "staticmethod.__get__") (.ref p) .none (.ref C)) ∧ PySem.W.recIn G.K p "staticmethod" = some (.ref f :: rr) ∧ PySem.W.keepIn G.K (.ref f) = true
def tSt (C : Addr) (n : Nat) (S : SpecD) (W : WX) (to : TE) (t : TA) : TE := fun σ H Q => to σ H fun x H1 => x = .ref C ∧ t σ H1 fun vs H2 => spD n S vs H2 Q (WE W σ)
section
variable {X : Cx} {W : WX} {mt : Str} {k j n : Nat} {S : SpecD} {C : Addr} {e o : Expr} {es : List Expr} {t : TA} {to : TE} {pos apos : Pos}
theorem pe_sta {pl : Sem Bool} (c : Sta (Gx.of X) k C mt n S) (hr : Room j X.A) (hk : k ≤ j) (tk : L2N.Takes X W) (he : PE X o to) (ha : PA X (e :: es) t)
    (hst : starEach (e :: es) X.env = (false, eval e X.env) :: starEach es X.env := by rfl) (hpl : (backTo pos (starEach es X.env)).any (·.1) = false := by rfl)
    (ht : eval (.Call (.Attribute o mt apos) (e :: es) [] pos) X.env = (do
      let ov ← eval o X.env
      standAt apos.atName
      let (f, first) ← holding [ov] (getMethod ov mt pl)
      callWith pos f first (backTo pos (starEach (e :: es) X.env)) (backToKw pos (keywordEach [] X.env))) := by rfl) :
    PE X (.Call (.Attribute o mt apos) (e :: es) [] pos) (tSt C n S W to t) := by
  obtain ⟨f, p, rr, ⟨⟨fd, ps, ds, F, b, d⟩, cs⟩, rd, at_, rc, kp⟩ := c.ex
  have hds : ds = [] := by
    have := d.length
    simp only [List.map_nil, List.length_nil] at this
    exact List.length_eq_zero_iff.mp this.symm
  refine ⟨fun pins s σ H Q I h => ?_⟩
  refine PySem.W.methodCall_KW (pl := pl) (thn (he.run pins s σ H _ I h) fun u s1 ⟨x, H1, I1, rx, ex, q⟩ => ?_) ht
  subst ex
  obtain rfl : u = Value.ref C := rx
  refine PySem.W.method_cls I1.kIn rd.ga ?_
  refine PySem.W.cls_bind I1.kIn rd.rd at_ ?_
  refine wpAny_call (PySem.W.sm_get (s := { s1 with toks := s1.toks + 1 }) I1.kIn rc (PySem.W.handed_on rfl ?_))
  have I2 := I1.tok (s1.toks + 1)
  refine PySem.W.callWith_K (first := []) (h₀ := X.base) I.ok.mod.kin kp (thn (ha.run pos pins _ σ H1 _ I2 q) fun us s2 ⟨vs, H2, I3, rr, q2⟩ => ⟨I3.kIn, ?_⟩) hst hpl
  have z := run_fnSD (E := WE W) (us := us) (vs := vs) F (hr.mono hk) b d (L2N.passAt tk σ) I3 rr (by rw [List.map_nil, List.append_nil]; exact q2)
  exact z
end
section
variable {W : WX} {E : ET} {r : Rho} {m : Mu} {K : KT} {C : Addr} {n : Nat} {S : SpecD} {to : TE} {t : TA}
theorem we_sta (h : We W E to r m fun d m1 => d = .ref C ∧ Wa W E t r m1 fun ds m2 => ds.length = n ∧ S ds m2 K fun x m' => E x r m') : We W E (tSt C n S W to t) r m K := fun s H Q e z g =>
  h s H _ e z fun d m1 v H1 st mu rd ⟨ed, q⟩ => by
    subst ed
    cases rd
    refine ⟨rfl, ?_⟩
    refine q s H1 _ (e.step st mu) (z.step st) fun ds m2 vs H2 st2 mu2 rs q2 => ?_
    exact spD_of q2.1 ((e.step st mu).step st2 mu2) ((z.step st).step st2) ((g.step st).step st2) rs q2.2 fun _ _ q => q
end
/-! ### & -/
section
variable {X : Cx} {W : WX} {E : ET} {r : Rho} {m : Mu} {K : KT} {G : Gx} {j k : Nat} {C : Addr} {ns ns' : List Str} {ds ds' : List D} {S : SpecD} {d d' : D}
def oAnd (G : Gx) (j : Nat) (W : WX) : O2 := oOwn2 G j W "__and__"
theorem os_and (hr : Room j X.A) (tk : L2N.Takes X W) : OpS X (binaryOp .BitAnd) (oAnd (Gx.of X) j W) := os_own2 (op := .BitAnd) hr tk
theorem w2_andO (O : Opr G k C "__and__" 2 S) (hk : k ≤ j) (i : FldD d m C ns ds) (i' : FldD d' m C ns' ds') (h : S [d, d'] m K fun x m' => E x r m') : W2 W E (oAnd G j W) d d' r m K := w2_own O hk i i' h
/-! ### texts -/
theorem w2_addStr {a b : Str} (l : a.length + b.length ≤ sizeLine) (h : K (.str (a ++ b)) m) : W2 W E (oAdd G j W) (.str a) (.str b) r m K := w2_val (fun _ _ _ => rstr) (fun _ _ _ => rstr) (fun _ _ => .str _) (fun _ _ _ q => .inr (.inl ⟨a, b, rfl, rfl, l, q⟩)) h
theorem w2_neSame {a : Str} (h : K (.bl false) m) : W2 W E (oNeF G j W) (.str a) (.str a) r m K := w2_val (fun _ _ _ => rstr) (fun _ _ _ => rstr) (fun _ _ => .bl _) (fun _ _ _ q => .inl ⟨rfl, by rw [decide_eq_true (rfl : V.str a = V.str a)]; exact q⟩) h
theorem w2_eqSame {a : Str} (h : K (.bl true) m) : W2 W E (oEqF G j W) (.str a) (.str a) r m K := w2_val (fun _ _ _ => rstr) (fun _ _ _ => rstr) (fun _ _ => .bl _) (fun _ _ _ q => .inl ⟨rfl, by rw [decide_eq_true (rfl : V.str a = V.str a)]; exact q⟩) h
end
theorem int_len {i : Int} {k : Nat} (hk : 0 < k) (h : i.natAbs.log2 < k) : (Str.ofString (toString i)).length ≤ k + 1 := by
  rw [PySem.ofString_length]
  exact int_text_length_le hk h
/-! ### == of plain data in an except suite -/
section
variable {X : Cx} {W : WX} {E : ET} {r : Rho} {m : Mu} {K : KT} {G : Gx} {j k : Nat} {d d' : D}
def oEqHF (G : Gx) : O2 := fun x y _ H Q => rEq x y H Q ∨ rEqD G.K x y H Q
def oNeHF (G : Gx) : O2 := fun x y _ H Q => rNe x y H Q ∨ rNeD G.K x y H Q
theorem roomH64 {A : Around} (hr : L2H.RoomH j A) : A.units + 64 < cLine := by have := hr.un; omega
theorem os_eqHF (hr : L2H.RoomH j X.A) : OpS X (compareOp .Eq) (oEqHF (Gx.of X)) := (OpS.of op_eq).or (OpS.of (op_eqD (roomH64 hr)))
theorem os_neHF (hr : L2H.RoomH j X.A) : OpS X (compareOp .NotEq) (oNeHF (Gx.of X)) := (OpS.of op_ne).or (OpS.of (op_neD (roomH64 hr)))
theorem w2_eqHFI {i k : Int} (h : K (.bl (decide (i = k))) m) : W2 W E (oEqHF G) (.int i) (.int k) r m K := w2_val (fun _ _ _ => rint) (fun _ _ _ => rint) (fun _ _ => .bl _) (fun _ _ _ q => .inl ⟨rfl, by rw [dec_int, ← Bool.beq_eq_decide_eq] at *; exact q⟩) h
theorem w2_neHFI {i k : Int} (h : K (.bl (!decide (i = k))) m) : W2 W E (oNeHF G) (.int i) (.int k) r m K := w2_val (fun _ _ _ => rint) (fun _ _ _ => rint) (fun _ _ => .bl _) (fun _ _ _ q => .inl ⟨rfl, by rw [dec_int, ← Bool.beq_eq_decide_eq] at *; exact q⟩) h
theorem w2_eqHFs {p : PyData} (h1 : PD d p) (s1 : SeqAt.shaped p = true) (h : K (.bl true) m) : W2 W E (oEqHF G) d d r m K := fun s H Q a b e z ra rb g =>
  .inr ⟨p, p, h1.dp ra, h1.dp rb, s1, s1, g _ m _ H (Stp.refl _ _) e.mu (.bl _) (by rw [PySem.SeqAt.eqv_refl p (SeqAt.canLay_of_shaped s1)]; exact h)⟩
end
/-! ### a stronger promise gives a weaker one -/
theorem Fnx.imp {G : Gx} {k n : Nat} {f : Addr} {S S' : SpecD} {dd : List D} (F : Fnx G k f n S dd) (h : ∀ ds m K E, S' ds m K E → S ds m K E) : Fnx G k f n S' dd := by
  obtain ⟨⟨fd, ps, ds, F, b, d⟩, cs⟩ := F
  exact ⟨⟨fd, ps, ds, F.imp fun vs H Q E ⟨ds, m, K, E', a, b, c, q, d, e⟩ => ⟨ds, m, K, E', a, b, c, h _ _ _ _ q, d, e⟩, b, d⟩, cs⟩
theorem Mak.imp {G : Gx} {k n : Nat} {x : Str} {C : Addr} {S S' : SpecD} {dd : List D} (M : Mak G k x C n S dd) (h : ∀ ds m K E, S' ds m K E → S ds m K E) : Mak G k x C n S' dd :=
  ⟨let ⟨f, F, M⟩ := M.ex; ⟨f, F.imp h, M⟩, M.mgC⟩
end DL
set_option Elab.async false
set_option linter.all false
/-! MQ: a Ratio by its number (Lean's own Rat). -/
namespace DL
open PySem PySem.Spec L2
abbrev dv (t b : Int) : Rat := Rat.divInt t b
/-- a Ratio, by its number -/
abbrev rq (C : Addr) (x : Rat) : D := rat C x.num (x.den : Int)
structure Qb (n : Nat) (x : Rat) : Prop where
  t : Bd n x.num
  b : Bd n (x.den : Int)
theorem Qb.mono {a b : Nat} {x : Rat} (h : Qb a x) (l : a ≤ b) : Qb b x := ⟨h.1.mono l, h.2.mono l⟩
theorem den_pos (x : Rat) : 0 < (x.den : Int) := by have := x.den_nz; omega
theorem den_ne (x : Rat) : (x.den : Int) ≠ 0 := by have := x.den_nz; omega
theorem rT_dv {t b : Int} (h : b ≠ 0) : rT t b = (dv t b).num ∧ rB t b = ((dv t b).den : Int) := by
  obtain ⟨g, hg, e1, e2, hp⟩ := rat_eqs (t := t) h
  have e3 : dv t b = Rat.divInt (rT t b) (rB t b) := by
    have := Rat.divInt_mul_left (n := rT t b) (d := rB t b) hg
    rw [← e1, ← e2] at this
    exact this
  have hB : ((rB t b).toNat : Int) = rB t b := by omega
  have e4 : Rat.divInt (rT t b) (rB t b) = (⟨rT t b, (rB t b).toNat, by omega, by
      have := rat_gcd (t := t) h
      have e : (rB t b).natAbs = (rB t b).toNat := by omega
      rw [e] at this
      exact this⟩ : Rat) := by
    rw [Rat.mk_eq_divInt, hB]
  rw [e3, e4]
  exact ⟨rfl, hB.symm⟩
theorem rq_of {C : Addr} {t b : Int} (h : b ≠ 0) : rat C (rT t b) (rB t b) = rq C (dv t b) := by
  rw [(rT_dv h).1, (rT_dv h).2]
theorem qb_of {n : Nat} {t b : Int} (h : b ≠ 0) (ht : Bd n t) (hb : Bd n b) : Qb n (dv t b) := by
  have q1 := rat_bd h ht
  have q2 := rat_bdB (t := t) h hb
  rw [(rT_dv h).1] at q1
  rw [(rT_dv h).2] at q2
  exact ⟨q1, q2⟩
theorem dv_self (x : Rat) : dv x.num x.den = x := Rat.num_divInt_den x
theorem dv_pair {t b : Int} (h : 0 < b) : (dv t b).num * b = t * ((dv t b).den : Int) := by
  obtain ⟨g, hg, e1, e2, hp⟩ := rat_eqs (t := t) (b := b) (by omega)
  have r := rT_dv (t := t) (b := b) (by omega)
  rw [← r.1, ← r.2]
  generalize rT t b = P at *
  generalize rB t b = Q at *
  subst e1 e2
  ac_rfl
theorem dv_eq {a b c d : Int} (hb : b ≠ 0) (hd : d ≠ 0) : dv a b = dv c d ↔ a * d = c * b := Rat.divInt_eq_divInt_iff hb hd
theorem add_dv {a b c d : Int} (hb : b ≠ 0) (hd : d ≠ 0) : dv a b + dv c d = dv (a * d + c * b) (b * d) := Rat.divInt_add_divInt _ _ hb hd
theorem sub_dv {a b c d : Int} (hb : b ≠ 0) (hd : d ≠ 0) : dv a b - dv c d = dv (a * d - c * b) (b * d) := Rat.divInt_sub_divInt _ _ hb hd
theorem mul_dv {a b c d : Int} : dv a b * dv c d = dv (a * c) (b * d) := Rat.divInt_mul_divInt _ _
theorem neg_dv {a b : Int} : -dv a b = dv (-a) b := Rat.neg_divInt _ _
theorem dv_scale {a b k : Int} (hk : k ≠ 0) : dv (a * k) (b * k) = dv a b := Rat.divInt_mul_right hk
theorem inv_dv {a b : Int} : (dv a b)⁻¹ = dv b a := by
  by_cases hb : b = 0
  · subst hb
    rw [show dv a 0 = 0 from Rat.divInt_zero a, show dv 0 a = 0 from Rat.zero_divInt a, Rat.inv_zero]
  by_cases ha : a = 0
  · subst ha
    rw [show dv b 0 = 0 from Rat.divInt_zero b, show dv 0 b = 0 from Rat.zero_divInt b, Rat.inv_zero]
  refine Rat.inv_eq_of_mul_eq_one ?_
  rw [mul_dv, Int.mul_comm a b]
  exact Rat.divInt_self' (Int.mul_ne_zero hb ha)
theorem lt_dv {a b c d : Int} (hb : 0 < b) (hd : 0 < d) : dv a b < dv c d ↔ a * d < c * b := by
  rw [Rat.lt_iff]
  have e1 := dv_pair (t := a) hb
  have e2 := dv_pair (t := c) hd
  have p1 := den_pos (dv a b)
  have p2 := den_pos (dv c d)
  generalize (dv a b).num = A at *
  generalize ((dv a b).den : Int) = B at *
  generalize (dv c d).num = C at *
  generalize ((dv c d).den : Int) = D at *
  have k : 0 < b * d := Int.mul_pos hb hd
  have k2 : 0 < B * D := Int.mul_pos p1 p2
  have x1 : A * D * (b * d) = (a * d) * (B * D) := by
    calc A * D * (b * d) = (A * b) * (D * d) := by ac_rfl
      _ = _ := by rw [e1]; ac_rfl
  have x2 : C * B * (b * d) = (c * b) * (B * D) := by
    calc C * B * (b * d) = (C * d) * (B * b) := by ac_rfl
      _ = _ := by rw [e2]; ac_rfl
  constructor
  · intro h
    have := Int.mul_lt_mul_of_pos_right h k
    rw [x1, x2] at this
    exact Int.lt_of_mul_lt_mul_right this (Int.le_of_lt k2)
  · intro h
    have := Int.mul_lt_mul_of_pos_right h k2
    rw [← x1, ← x2] at this
    exact Int.lt_of_mul_lt_mul_right this (Int.le_of_lt k)
theorem le_dv {a b c d : Int} (hb : 0 < b) (hd : 0 < d) : dv a b ≤ dv c d ↔ a * d ≤ c * b := by
  rw [← Rat.not_lt, lt_dv hd hb]
  omega
theorem lt_q {x y : Rat} : x.num * y.den < y.num * x.den ↔ x < y := (Rat.lt_iff x y).symm
theorem num_neg_iff {x : Rat} : x.num < 0 ↔ x < 0 := by
  rw [← lt_q (x := x) (y := 0)]
  show _ ↔ x.num * ((1 : Nat) : Int) < 0 * x.den
  omega
theorem num_pos_iff {x : Rat} : 0 < x.num ↔ 0 < x := by
  rw [← lt_q (x := 0) (y := x)]
  show _ ↔ 0 * (x.den : Int) < x.num * ((1 : Nat) : Int)
  omega
theorem dv_pos {t b : Int} (hb : 0 < b) : 0 < dv t b ↔ 0 < t := by
  have := lt_dv (a := 0) (b := 1) (c := t) (d := b) (by decide) hb
  rw [show dv 0 1 = 0 from rfl] at this
  rw [this]; omega
theorem dv_neg {t b : Int} (hb : 0 < b) : dv t b < 0 ↔ t < 0 := by
  have := lt_dv (a := t) (b := b) (c := 0) (d := 1) hb (by decide)
  rw [show dv 0 1 = 0 from rfl] at this
  rw [this]; omega
theorem dv_nonneg {t b : Int} (hb : 0 < b) : 0 ≤ dv t b ↔ 0 ≤ t := by
  rw [← Rat.not_lt, dv_neg hb]; omega
theorem dv_nonpos {t b : Int} (hb : 0 < b) : dv t b ≤ 0 ↔ t ≤ 0 := by
  rw [← Rat.not_lt, dv_pos hb]; omega
theorem dv_zero {t b : Int} (hb : b ≠ 0) : dv t b = 0 ↔ t = 0 := by
  have := dv_eq (a := t) (b := b) (c := 0) (d := 1) hb (by decide)
  rw [show dv 0 1 = 0 from rfl] at this
  rw [this]; omega
/-! ### the program's own formulas -/
theorem q_add {x y : Rat} : dv (x.num * y.den + y.num * x.den) (x.den * y.den) = x + y := by
  have := add_dv (a := x.num) (c := y.num) (den_ne x) (den_ne y)
  rw [dv_self, dv_self] at this
  exact this.symm
theorem q_sub {x y : Rat} : dv (x.num * y.den - y.num * x.den) (x.den * y.den) = x - y := by
  have := sub_dv (a := x.num) (c := y.num) (den_ne x) (den_ne y)
  rw [dv_self, dv_self] at this
  exact this.symm
theorem q_mul {x y : Rat} : dv (x.num * y.num) (x.den * y.den) = x * y := by
  have := mul_dv (a := x.num) (b := x.den) (c := y.num) (d := y.den)
  rw [dv_self, dv_self] at this
  exact this.symm
theorem q_neg {x : Rat} : dv (-x.num) x.den = -x := by
  have := neg_dv (a := x.num) (b := x.den)
  rw [dv_self] at this
  exact this.symm
theorem q_div {x y : Rat} : dv (x.num * y.den) (x.den * y.num) = x / y := by
  have := mul_dv (a := x.num) (b := x.den) (c := y.den) (d := y.num)
  rw [← inv_dv (a := y.num), dv_self, dv_self] at this
  exact this.symm
theorem num_ne {x : Rat} (h : x ≠ 0) : x.num ≠ 0 := fun z => h (Rat.num_eq_zero.mp z)
theorem qb_add {a b : Nat} {x y : Rat} (h : Qb a x) (k : Qb b y) : Qb (a + b + 1) (x + y) := by
  rw [← q_add]
  exact qb_of (Int.mul_ne_zero (den_ne x) (den_ne y)) (((h.1.mul k.2)).add ((k.1.mul h.2).mono (Nat.le_of_eq (Nat.add_comm _ _)))) ((h.2.mul k.2).mono (by omega))
theorem qb_sub {a b : Nat} {x y : Rat} (h : Qb a x) (k : Qb b y) : Qb (a + b + 1) (x - y) := by
  rw [← q_sub]
  exact qb_of (Int.mul_ne_zero (den_ne x) (den_ne y)) (((h.1.mul k.2)).sub ((k.1.mul h.2).mono (Nat.le_of_eq (Nat.add_comm _ _)))) ((h.2.mul k.2).mono (by omega))
theorem qb_mul {a b : Nat} {x y : Rat} (h : Qb a x) (k : Qb b y) : Qb (a + b) (x * y) := by
  rw [← q_mul]
  exact qb_of (Int.mul_ne_zero (den_ne x) (den_ne y)) (h.1.mul k.1) (h.2.mul k.2)
theorem qb_div {a b : Nat} {x y : Rat} (h : Qb a x) (k : Qb b y) (n : y ≠ 0) : Qb (a + b) (x / y) := by
  rw [← q_div]
  exact qb_of (Int.mul_ne_zero (den_ne x) (num_ne n)) (h.1.mul k.2) (h.2.mul k.1)
theorem q_inv {x : Rat} : 1 / x = dv x.den x.num := by
  have := inv_dv (a := x.num) (b := x.den)
  rw [dv_self] at this
  rw [← this, Rat.div_def, Rat.one_mul]
theorem qb_inv {a : Nat} {x : Rat} (h : Qb a x) (n : x ≠ 0) : Qb a (1 / x) := by
  rw [q_inv]
  exact qb_of (num_ne n) h.2 h.1
theorem qb_neg {a : Nat} {x : Rat} (h : Qb a x) : Qb a (-x) := by
  rw [← q_neg]
  exact qb_of (den_ne x) h.1.neg h.2
theorem qb_one {n : Nat} : Qb (n + 1) 1 := by
  have : Bd (n + 1) 1 := (bd_lit (n := 1) (by decide)).mono (by omega)
  exact ⟨this, this⟩
/-! ### compare, least, greatest -/
def cq (x y : Rat) : Int := if x < y then -1 else if y < x then 1 else 0
def qmin (x y : Rat) : Rat := if y < x then y else x
def qmax (x y : Rat) : Rat := if x < y then y else x
theorem cq_pos {x y : Rat} : 0 < cq x y ↔ y < x := by
  unfold cq
  split
  · constructor <;> intro h
    · omega
    · exact absurd (Rat.le_of_lt h) (Rat.not_le.mpr ‹_›)
  · split
    · simp_all
    · simp_all
theorem cq_neg {x y : Rat} : cq x y < 0 ↔ x < y := by
  unfold cq
  split
  · simp_all
  · split
    · simp_all
    · simp_all
theorem cq_le {x y : Rat} : cq x y ≤ 0 ↔ x ≤ y := by
  rw [← Int.not_lt, cq_pos, Rat.not_lt]
theorem cq_ge {x y : Rat} : 0 ≤ cq x y ↔ y ≤ x := by
  rw [← Int.not_lt, cq_neg, Rat.not_lt]
theorem qmin_qb {a : Nat} {x y : Rat} (h : Qb a x) (k : Qb a y) : Qb a (qmin x y) := by
  unfold qmin
  split <;> assumption
theorem qmax_qb {a : Nat} {x y : Rat} (h : Qb a x) (k : Qb a y) : Qb a (qmax x y) := by
  unfold qmax
  split <;> assumption
end DL
set_option Elab.async false
set_option linter.all false
set_option maxRecDepth 100000
/-! DQ: Ratio and Span by numbers: what their methods promise. -/
namespace DL
open PySem PySem.Spec L2
open PyProof.Rows hiding St
/-! ### Ratio -/
def S_init (C : Addr) : SpecD := fun ds m K _ => ∃ x m0 t b, ds = [.ref x, .int t, .int b] ∧ m = (x, .ins C [] []) :: m0 ∧ b ≠ 0 ∧ Bd 8000 b ∧ K .non ((x, .ins C ["top", "bottom"] [.int (rT t b), .int (rB t b)]) :: m0)
structure RatQ (b : Int) (K : Prop) : Prop where
  nz : b ≠ 0
  bd : Bd 8000 b
  k : K
section
variable {W : WX} {E : ET} {ta : TA} {r : Rho} {m : Mu} {K : KT} {C S : Addr}
theorem we_ratQ (h : Wa W E ta r m fun ds m1 => ∃ p q, ds = [.int p, .int q] ∧ RatQ q (K (rq C (dv p q)) m1)) : We W E (tMk C 3 (S_init C) [] W ta) r m K :=
  we_mk0 (h.imp fun ds m1 ⟨p, q, e, h0, hb, k⟩ => by
    subst e
    exact ⟨rfl, fun x _ => ⟨x, m1, p, q, rfl, rfl, h0, hb, _, _, rfl, rfl, by rw [(rT_dv h0).1, (rT_dv h0).2]; exact k⟩⟩)
theorem we_ratQ1 (h : Wa W E ta r m fun ds m1 => ∃ p, ds = [.int p] ∧ K (rq C (p : Rat)) m1) : We W E (tMk C 3 (S_init C) [.int 1] W ta) r m K :=
  we_mk1 rfl (h.imp fun ds m1 ⟨p, e, k⟩ => by
    subst e
    have e1 : rT p 1 = p := (rat_low (by decide) (Nat.gcd_one_right _)).1
    have e2 : rB p 1 = 1 := (rat_low (t := p) (by decide) (Nat.gcd_one_right _)).2
    exact ⟨rfl, fun x _ => ⟨x, m1, p, 1, rfl, rfl, by decide, bd_lit (by decide), _, _, rfl, rfl, by rw [e1, e2]; exact k⟩⟩)
def S_q2 (C : Addr) (f : Rat → Rat → Rat) : SpecD := fun ds m K _ => ∃ x y, ds = [rq C x, rq C y] ∧ Qb 3900 x ∧ Qb 3900 y ∧ K (rq C (f x y)) m
def S_qadd (C : Addr) : SpecD := S_q2 C (fun x y => x + y)
def S_qsub (C : Addr) : SpecD := S_q2 C (fun x y => x - y)
def S_qmul (C : Addr) : SpecD := S_q2 C (fun x y => x * y)
def S_qleast (C : Addr) : SpecD := S_q2 C qmin
def S_qgreat (C : Addr) : SpecD := S_q2 C qmax
def S_qdiv (C : Addr) : SpecD := fun ds m K _ => ∃ x y, ds = [rq C x, rq C y] ∧ Qb 3900 x ∧ Qb 3900 y ∧ y ≠ 0 ∧ K (rq C (x / y)) m
def S_qneg (C : Addr) : SpecD := fun ds m K _ => ∃ x, ds = [rq C x] ∧ Qb 3900 x ∧ K (rq C (-x)) m
def S_qcmp (C : Addr) : SpecD := fun ds m K _ => ∃ x y, ds = [rq C x, rq C y] ∧ Qb 3900 x ∧ Qb 3900 y ∧ K (.int (cq x y)) m
def S_qsign (C : Addr) : SpecD := fun ds m K _ => ∃ x, ds = [rq C x] ∧ K (.int (cq x 0)) m
variable {F : Ex → Mu → Prop} {x y x0 x1 y0 y1 : Rat}
theorem use_qadd (h : Qb 3900 x) (k : Qb 3900 y) (q : K (rq C (x + y)) m) : S_qadd C [rq C x, rq C y] m K F := ⟨x, y, rfl, h, k, q⟩
theorem use_qsub (h : Qb 3900 x) (k : Qb 3900 y) (q : K (rq C (x - y)) m) : S_qsub C [rq C x, rq C y] m K F := ⟨x, y, rfl, h, k, q⟩
theorem use_qmul (h : Qb 3900 x) (k : Qb 3900 y) (q : K (rq C (x * y)) m) : S_qmul C [rq C x, rq C y] m K F := ⟨x, y, rfl, h, k, q⟩
theorem use_qleast (h : Qb 3900 x) (k : Qb 3900 y) (q : K (rq C (qmin x y)) m) : S_qleast C [rq C x, rq C y] m K F := ⟨x, y, rfl, h, k, q⟩
theorem use_qgreat (h : Qb 3900 x) (k : Qb 3900 y) (q : K (rq C (qmax x y)) m) : S_qgreat C [rq C x, rq C y] m K F := ⟨x, y, rfl, h, k, q⟩
theorem use_qdiv (h : Qb 3900 x) (k : Qb 3900 y) (n : y ≠ 0) (q : K (rq C (x / y)) m) : S_qdiv C [rq C x, rq C y] m K F := ⟨x, y, rfl, h, k, n, q⟩
theorem use_qneg (h : Qb 3900 x) (q : K (rq C (-x)) m) : S_qneg C [rq C x] m K F := ⟨x, rfl, h, q⟩
theorem use_qcmp (h : Qb 3900 x) (k : Qb 3900 y) (q : K (.int (cq x y)) m) : S_qcmp C [rq C x, rq C y] m K F := ⟨x, y, rfl, h, k, q⟩
theorem use_qsign (q : K (.int (cq x 0)) m) : S_qsign C [rq C x] m K F := ⟨x, rfl, q⟩
/-! ### Span -/
abbrev spn (S C : Addr) (x y : Rat) : D := .ins S ["low", "high"] [rq C x, rq C y]
theorem fix_lo {a b : D} : fix "low" ["low", "high"] [a, b] = some a := by simp [fix]
theorem nhl : ¬ (("high" : Str) = "low") := by decide +kernel
theorem fix_hi {a b : D} : fix "high" ["low", "high"] [a, b] = some b := by simp [fix, nhl]
structure SpnC (K : PySem.W.Frag) (C : Addr) : Prop where
  ins : InsK K C
  al : NoAttr K C "low"
  ah : NoAttr K C "high"
section
variable {K : PySem.W.Frag} {KK : D → Prop} {C : Addr} {a b : D}
theorem fld_low (R : SpnC K C) (h : KK a) : ∃ C' ns ds x, D.ins C ["low", "high"] [a, b] = .ins C' ns ds ∧ Cls K C' ∧ NoAttr K C' "low" ∧ fix "low" ns ds = some x ∧ KK x := ⟨_, _, _, _, rfl, R.ins.cl, R.al, fix_lo, h⟩
theorem fld_high (R : SpnC K C) (h : KK b) : ∃ C' ns ds x, D.ins C ["low", "high"] [a, b] = .ins C' ns ds ∧ Cls K C' ∧ NoAttr K C' "high" ∧ fix "high" ns ds = some x ∧ KK x := ⟨_, _, _, _, rfl, R.ins.cl, R.ah, fix_hi, h⟩
variable {m0 : Mu} {x : Addr} {d e : D} {N : Mu → Prop}
theorem cont_lh : (["low"] : List Str).contains "high" = false := by decide +kernel
theorem setN_low (R : SpnC K C) (h : N ((x, .ins C ["low"] [d]) :: m0)) : ∃ p C' ns ds m3, D.ref x = .ref p ∧ At ((x, MO.ins C [] []) :: m0) p (.ins C' ns ds) ∧ Cls K C' ∧ NoAttr K C' "low" ∧ ns.contains "low" = false ∧ Nat.ble ns.length 900 = true ∧ Put ((x, MO.ins C [] []) :: m0) p (.ins C' (ns ++ [("low" : Str)]) (ds ++ [d])) m3 ∧ N m3 :=
  ⟨_, _, _, _, _, rfl, .head, R.ins.cl, R.al, rfl, rfl, .head, h⟩
theorem setN_high (R : SpnC K C) (h : N ((x, .ins C ["low", "high"] [d, e]) :: m0)) : ∃ p C' ns ds m3, D.ref x = .ref p ∧ At ((x, MO.ins C ["low"] [d]) :: m0) p (.ins C' ns ds) ∧ Cls K C' ∧ NoAttr K C' "high" ∧ ns.contains "high" = false ∧ Nat.ble ns.length 900 = true ∧ Put ((x, MO.ins C ["low"] [d]) :: m0) p (.ins C' (ns ++ [("high" : Str)]) (ds ++ [e])) m3 ∧ N m3 :=
  ⟨_, _, _, _, _, rfl, .head, R.ins.cl, R.ah, cont_lh, rfl, .head, h⟩
end
def S_sinit (S C : Addr) : SpecD := fun ds m K _ => ∃ x m0 a b, ds = [.ref x, rq C a, rq C b] ∧ m = (x, .ins S [] []) :: m0 ∧ a ≤ b ∧ Qb 3900 a ∧ Qb 3900 b ∧ K .non ((x, .ins S ["low", "high"] [rq C a, rq C b]) :: m0)
structure SpnA (x y : Rat) (K : Prop) : Prop where
  le : x ≤ y
  qx : Qb 3900 x
  qy : Qb 3900 y
  k : K
theorem we_spn (h : Wa W E ta r m fun ds m1 => ∃ x y, ds = [rq C x, rq C y] ∧ SpnA x y (K (spn S C x y) m1)) : We W E (tMk S 3 (S_sinit S C) [] W ta) r m K :=
  we_mk0 (h.imp fun ds m1 ⟨p, q, e, le, qx, qy, k⟩ => by
    subst e
    exact ⟨rfl, fun x _ => ⟨x, m1, p, q, rfl, rfl, le, qx, qy, _, _, rfl, rfl, k⟩⟩)
/-- two spans, of a size -/
structure Two (x0 x1 y0 y1 : Rat) : Prop where
  lx : x0 ≤ x1
  ly : y0 ≤ y1
  a0 : Qb 900 x0
  a1 : Qb 900 x1
  b0 : Qb 900 y0
  b1 : Qb 900 y1
abbrev F4 := Rat → Rat → Rat → Rat → Rat
def S_s2 (S C : Addr) (f g : F4) : SpecD := fun ds m K _ => ∃ x0 x1 y0 y1, ds = [spn S C x0 x1, spn S C y0 y1] ∧ Two x0 x1 y0 y1 ∧ K (spn S C (f x0 x1 y0 y1) (g x0 x1 y0 y1)) m
def q4min (a b c d : Rat) : Rat := qmin (qmin a b) (qmin c d)
def q4max (a b c d : Rat) : Rat := qmax (qmax a b) (qmax c d)
def addL : F4 := fun x0 _ y0 _ => x0 + y0
def addH : F4 := fun _ x1 _ y1 => x1 + y1
def subL : F4 := fun x0 _ _ y1 => x0 - y1
def subH : F4 := fun _ x1 y0 _ => x1 - y0
def mulL : F4 := fun x0 x1 y0 y1 => q4min (x0 * y0) (x0 * y1) (x1 * y0) (x1 * y1)
def mulH : F4 := fun x0 x1 y0 y1 => q4max (x0 * y0) (x0 * y1) (x1 * y0) (x1 * y1)
def leL : F4 := fun x0 _ y0 _ => qmin x0 y0
def leH : F4 := fun _ x1 _ y1 => qmin x1 y1
def grL : F4 := fun x0 _ y0 _ => qmax x0 y0
def grH : F4 := fun _ x1 _ y1 => qmax x1 y1
def divL : F4 := fun x0 x1 y0 y1 => mulL x0 x1 (1 / y1) (1 / y0)
def divH : F4 := fun x0 x1 y0 y1 => mulH x0 x1 (1 / y1) (1 / y0)
theorem use_s2 {f g : F4} (h : Two x0 x1 y0 y1) (k : K (spn S C (f x0 x1 y0 y1) (g x0 x1 y0 y1)) m) : S_s2 S C f g [spn S C x0 x1, spn S C y0 y1] m K F := ⟨_, _, _, _, rfl, h, k⟩
def S_sneg (S C : Addr) : SpecD := fun ds m K _ => ∃ x0 x1, ds = [spn S C x0 x1] ∧ x0 ≤ x1 ∧ Qb 900 x0 ∧ Qb 900 x1 ∧ K (spn S C (-x1) (-x0)) m
theorem use_sneg (h : x0 ≤ x1) (a : Qb 900 x0) (b : Qb 900 x1) (k : K (spn S C (-x1) (-x0)) m) : S_sneg S C [spn S C x0 x1] m K F := ⟨_, _, rfl, h, a, b, k⟩
def S_scont (S C : Addr) : SpecD := fun ds m K _ => ∃ x0 x1 x, ds = [spn S C x0 x1, rq C x] ∧ Qb 3900 x0 ∧ Qb 3900 x1 ∧ Qb 3900 x ∧ K (.bl (decide (x0 ≤ x ∧ x ≤ x1))) m
theorem use_scont (a : Qb 3900 x0) (b : Qb 3900 x1) (c : Qb 3900 x) (k : K (.bl (decide (x0 ≤ x ∧ x ≤ x1))) m) : S_scont S C [spn S C x0 x1, rq C x] m K F := ⟨_, _, _, rfl, a, b, c, k⟩
/-- the quotient, or ZeroBottom (class Z) -/
def S_sdiv (S C Z : Addr) : SpecD := fun ds m K E => ∃ x0 x1 y0 y1, ds = [spn S C x0 x1, spn S C y0 y1] ∧ Two x0 x1 y0 y1 ∧ ((y0 ≤ 0 ∧ 0 ≤ y1 ∧ E ⟨Z, [], []⟩ m) ∨ ((0 < y0 ∨ y1 < 0) ∧ K (spn S C (divL x0 x1 y0 y1) (divH x0 x1 y0 y1)) m))
theorem use_sdiv {Z : Addr} (h : Two x0 x1 y0 y1) (n : 0 < y0 ∨ y1 < 0) (k : K (spn S C (divL x0 x1 y0 y1) (divH x0 x1 y0 y1)) m) : S_sdiv S C Z [spn S C x0 x1, spn S C y0 y1] m K F := ⟨_, _, _, _, rfl, h, .inr ⟨n, k⟩⟩
/-! what is between -/
theorem q4_le {a b c d : Rat} : q4min a b c d ≤ q4max a b c d := by
  unfold q4min q4max qmin qmax
  grind
theorem q4min_qb {n : Nat} {a b c d : Rat} (ha : Qb n a) (hb : Qb n b) (hc : Qb n c) (hd : Qb n d) : Qb n (q4min a b c d) := qmin_qb (qmin_qb ha hb) (qmin_qb hc hd)
theorem q4max_qb {n : Nat} {a b c d : Rat} (ha : Qb n a) (hb : Qb n b) (hc : Qb n c) (hd : Qb n d) : Qb n (q4max a b c d) := qmax_qb (qmax_qb ha hb) (qmax_qb hc hd)
theorem qmin_le {a b c d : Rat} (h : a ≤ c) (k : b ≤ d) : qmin a b ≤ qmin c d := by
  unfold qmin
  grind
theorem qmax_le {a b c d : Rat} (h : a ≤ c) (k : b ≤ d) : qmax a b ≤ qmax c d := by
  unfold qmax
  grind
theorem inv_anti {a b : Rat} (h : a ≤ b) (n : 0 < a ∨ b < 0) : 1 / b ≤ 1 / a := by
  have na : a ≠ 0 := by grind
  have nb : b ≠ 0 := by grind
  have ea := Rat.div_mul_cancel (a := 1) na
  have eb := Rat.div_mul_cancel (a := 1) nb
  generalize 1 / a = u at *
  generalize 1 / b = v at *
  have e : (u - v) * (a * b) = b - a := by grind
  have p : 0 < a * b := by
    rcases n with n | n
    · exact Rat.mul_pos n (by grind)
    · have := Rat.mul_pos (a := -a) (b := -b) (by grind) (by grind)
      grind
  have q : 0 * (a * b) ≤ (u - v) * (a * b) := by rw [e]; grind
  have := Rat.le_of_mul_le_mul_right q p
  grind
end
end DL
set_option Elab.async false
set_option linter.all false
set_option maxRecDepth 100000
/-! DQ2: Ratio's own ==, rounding; pairs that stand for fractions. -/
namespace DL
open PySem PySem.Spec L2
open PyProof.Rows hiding St
section
variable {W : WX} {E : ET} {ta : TA} {r : Rho} {m : Mu} {K : KT} {C : Addr} {F : Ex → Mu → Prop} {x y : Rat} {G : Gx} {j k : Nat} {d' : D} {T : String}
/-- Ratio's own == -/
def S_qeq (G : Gx) (C : Addr) : SpecD := fun ds m K _ => ∃ x d', ds = [rq C x, d'] ∧ ((∃ y, d' = rq C y ∧ K (.bl (decide (x = y))) m) ∨ (∃ t, TyD G d' m t ∧ PySem.W.kitOne G.K t (.ref C) = some false ∧ K (.bl false) m))
theorem w2_qeq (O : Opr G k C "__eq__" 2 (S_qeq G C)) (hk : k ≤ j) (ic : InsK G.K C) (h : K (.bl (decide (x = y))) m) : W2 W E (oEqF G j W) (rq C x) (rq C y) r m K :=
  w2_eqFL O hk .fixed (.ins ic) nf_self ⟨x, rq C y, rfl, .inl ⟨y, rfl, h⟩⟩
theorem w2_qeqL (O : Opr G k C "__eq__" 2 (S_qeq G C)) (hk : k ≤ j) (Kc : KindsC G C) (b : BkD d' T) (h : K (.bl false) m) : W2 W E (oEqF G j W) (rq C x) d' r m K :=
  w2_eqFL O hk .fixed b.ty (Kc.nf T b.mem) ⟨x, d', rfl, .inr ⟨_, b.ty, Kc.kt T b.mem, h⟩⟩
theorem w2_qeqR (O : Opr G k C "__eq__" 2 (S_qeq G C)) (hk : k ≤ j) (Kc : KindsC G C) (b : BkD d' T) (h : K (.bl false) m) : W2 W E (oEqF G j W) d' (rq C x) r m K :=
  w2_eqFR O hk .fixed b (Kc.sb T b.mem) ⟨x, d', rfl, .inr ⟨_, b.ty, Kc.kt T b.mem, h⟩⟩
theorem q_eq : x = y ↔ x.num = y.num ∧ (x.den : Int) = y.den := by
  constructor
  · intro e
    subst e
    exact ⟨rfl, rfl⟩
  · intro h
    exact Rat.ext h.1 (Int.ofNat.inj h.2)
def S_qdown (C : Addr) : SpecD := fun ds m K _ => ∃ x, ds = [rq C x] ∧ Qb 3900 x ∧ K (.int (x.num / x.den)) m
def S_qup (C : Addr) : SpecD := fun ds m K _ => ∃ x, ds = [rq C x] ∧ Qb 3900 x ∧ K (.int (-(-x.num / x.den))) m
theorem use_qdown (h : Qb 3900 x) (q : K (.int (x.num / x.den)) m) : S_qdown C [rq C x] m K F := ⟨x, rfl, h, q⟩
theorem use_qup (h : Qb 3900 x) (q : K (.int (-(-x.num / x.den))) m) : S_qup C [rq C x] m K F := ⟨x, rfl, h, q⟩
end
/-- rounding, by any pair -/
theorem dv_floor {a b : Int} (hb : 0 < b) : (dv a b).num / ((dv a b).den : Int) = a / b := by
  obtain ⟨g, hg, e1, e2, hp⟩ := rat_eqs (t := a) (b := b) (by omega)
  have r := rT_dv (t := a) (b := b) (by omega)
  rw [← r.1, ← r.2]
  have gp : 0 < g := by
    refine Int.lt_of_not_ge fun z => ?_
    have : g * rB a b ≤ 0 := Int.mul_nonpos_of_nonpos_of_nonneg z (Int.le_of_lt hp)
    omega
  generalize rT a b = P at *
  generalize rB a b = Q at *
  subst e1 e2
  exact (Int.mul_ediv_mul_of_pos _ _ gp).symm
theorem dv_ceil {a b : Int} (hb : 0 < b) : -(-(dv a b).num / ((dv a b).den : Int)) = -(-a / b) := by
  have e := dv_floor (a := -a) hb
  rw [← neg_dv] at e
  rw [← e]
  rfl
theorem dv_int {a : Int} : dv a 1 = (a : Rat) := by
  rw [show dv a 1 = (a : Rat) / ((1 : Int) : Rat) from Rat.divInt_eq_div a 1]
  rw [Rat.div_def]
  have : (((1 : Int) : Rat))⁻¹ = 1 := Rat.inv_eq_of_mul_eq_one (by rw [Rat.mul_one]; rfl)
  rw [this, Rat.mul_one]
/-- a pair that stands for a fraction, of a size -/
structure Fr (n : Nat) (t b : Int) : Prop where
  pos : 0 < b
  bt : Bd n t
  bb : Bd n b
theorem Fr.mono {a b : Nat} {x y : Int} (h : Fr a x y) (l : a ≤ b) : Fr b x y := ⟨h.pos, h.bt.mono l, h.bb.mono l⟩
theorem Fr.plus {n k : Nat} {a b c d : Int} (h : Fr n a b) (q : Fr k c d) : Fr (n + k + 1) (a * d + c * b) (b * d) :=
  ⟨Int.mul_pos h.pos q.pos, (h.bt.mul q.bb).add ((q.bt.mul h.bb).mono (Nat.le_of_eq (Nat.add_comm _ _))), (h.bb.mul q.bb).mono (by omega)⟩
theorem Fr.minus {n k : Nat} {a b c d : Int} (h : Fr n a b) (q : Fr k c d) : Fr (n + k + 1) (a * d - c * b) (b * d) :=
  ⟨Int.mul_pos h.pos q.pos, (h.bt.mul q.bb).sub ((q.bt.mul h.bb).mono (Nat.le_of_eq (Nat.add_comm _ _))), (h.bb.mul q.bb).mono (by omega)⟩
theorem Fr.mul {n k : Nat} {a b c d : Int} (h : Fr n a b) (q : Fr k c d) : Fr (n + k) (a * c) (b * d) :=
  ⟨Int.mul_pos h.pos q.pos, h.bt.mul q.bt, h.bb.mul q.bb⟩
theorem bd_nat {n : Nat} {a : Int} (h : Bd n a) : Bd n (a.natAbs : Int) := by
  unfold Bd at *
  rwa [Int.natAbs_natCast]
theorem Fr.abs {n : Nat} {a b : Int} (h : Fr n a b) : Fr n (a.natAbs : Int) b := ⟨h.pos, bd_nat h.bt, h.bb⟩
theorem Fr.neg {n : Nat} {a b : Int} (h : Fr n a b) : Fr n (-a) b := ⟨h.pos, h.bt.neg, h.bb⟩
theorem Fr.qb {n : Nat} {a b : Int} (h : Fr n a b) : Qb n (dv a b) := qb_of (by have := h.pos; omega) h.bt h.bb
theorem fr_small {a b : Int} (h : a.natAbs ≤ 1000000000000) (k : 0 < b) (l : b ≤ 1000000000000) : Fr 40 a b := ⟨k, by unfold Bd; omega, by unfold Bd; omega⟩
theorem fr_one {n : Nat} {a : Int} (h : Bd n a) : Fr (n + 1) a 1 := ⟨by decide, h.mono (by omega), (bd_lit (n := 1) (by decide)).mono (by omega)⟩
theorem fr_zero : Fr 1 0 1 := ⟨by decide, bd_lit (by decide), bd_lit (by decide)⟩
theorem abs_nn {a b : Int} (h : 0 < b) : 0 ≤ dv (a.natAbs : Int) b := (dv_nonneg h).mpr (by omega)
theorem neg_np {a b : Int} (h : 0 < b) : dv (-(a.natAbs : Int)) b ≤ 0 := (dv_nonpos h).mpr (by omega)
theorem cq_dv {a b c d : Int} (hb : 0 < b) (hd : 0 < d) : cq (dv a b) (dv c d) = if a * d - c * b < 0 then -1 else if 0 < a * d - c * b then 1 else 0 := by
  unfold cq
  simp only [lt_dv hb hd, lt_dv hd hb]
  have e1 : a * d < c * b ↔ a * d - c * b < 0 := by omega
  have e2 : c * b < a * d ↔ 0 < a * d - c * b := by omega
  simp only [e1, e2]
theorem cq_self {x : Rat} : cq x x = 0 := by
  unfold cq
  grind
theorem cq_swap {x y : Rat} : cq y x = -cq x y := by
  unfold cq
  grind
theorem cq_zero {x y : Rat} : cq x y = 0 ↔ x = y := by
  unfold cq
  grind
theorem cq_num {x : Rat} : cq x 0 = cq x (dv 0 1) := rfl
end DL
set_option Elab.async false
set_option linter.all false
set_option maxRecDepth 100000
/-! DQ3: Span's own ==, &, at_most, length, point, text; Ratio's text. -/
namespace DL
open PySem PySem.Spec L2
open PyProof.Rows hiding St
section
variable {W : WX} {E : ET} {ta : TA} {r : Rho} {m : Mu} {K : KT} {C S Z : Addr} {F : Ex → Mu → Prop} {x y x0 x1 y0 y1 : Rat} {G : Gx} {j k : Nat} {d' : D} {T : String}
def S_sinitX (S C Z : Addr) : SpecD := fun ds m K E => ∃ x m0 a b, ds = [.ref x, rq C a, rq C b] ∧ m = (x, .ins S [] []) :: m0 ∧ Qb 3900 a ∧ Qb 3900 b ∧
  ((b < a ∧ E ⟨Z, ["high", "low"], [rq C b, rq C a]⟩ ((x, .ins S [] []) :: m0)) ∨ (a ≤ b ∧ K .non ((x, .ins S ["low", "high"] [rq C a, rq C b]) :: m0)))
theorem Mak.sinit {nm : Str} {n : Nat} {dd : List D} (M : Mak G k nm S n (S_sinitX S C Z) dd) : Mak G k nm S n (S_sinit S C) dd :=
  M.imp fun ds m K E ⟨x, m0, a, b, e1, e2, le, qa, qb, k⟩ => ⟨x, m0, a, b, e1, e2, qa, qb, .inr ⟨le, k⟩⟩
structure SpnX (x y : Rat) (K : Prop) : Prop where
  lt : y < x
  qx : Qb 3900 x
  qy : Qb 3900 y
  k : K
theorem we_spnX (h : Wa W E ta r m fun ds m1 => ∃ x y, ds = [rq C x, rq C y] ∧ SpnX x y (E ⟨Z, ["high", "low"], [rq C y, rq C x]⟩ r m1)) : We W E (tMk S 3 (S_sinitX S C Z) [] W ta) r m K :=
  we_mk0 (h.imp fun ds m1 ⟨p, q, e, lt, qx, qy, k⟩ => by
    subst e
    exact ⟨rfl, fun x _ => ⟨x, m1, p, q, rfl, rfl, qx, qy, .inl ⟨lt, _, rfl, k⟩⟩⟩)
/-- Span's own == -/
def S_seq (G : Gx) (S C : Addr) : SpecD := fun ds m K _ => ∃ x0 x1 d', ds = [spn S C x0 x1, d'] ∧ ((∃ y0 y1, d' = spn S C y0 y1 ∧ K (.bl (decide (x0 = y0 ∧ x1 = y1))) m) ∨ (∃ t, TyD G d' m t ∧ PySem.W.kitOne G.K t (.ref S) = some false ∧ K (.bl false) m))
theorem w2_seq (O : Opr G k S "__eq__" 2 (S_seq G S C)) (hk : k ≤ j) (ic : InsK G.K S) (h : K (.bl (decide (x0 = y0 ∧ x1 = y1))) m) : W2 W E (oEqF G j W) (spn S C x0 x1) (spn S C y0 y1) r m K :=
  w2_eqFL O hk .fixed (.ins ic) nf_self ⟨x0, x1, _, rfl, .inl ⟨y0, y1, rfl, h⟩⟩
theorem w2_seqL (O : Opr G k S "__eq__" 2 (S_seq G S C)) (hk : k ≤ j) (Kc : KindsC G S) (b : BkD d' T) (h : K (.bl false) m) : W2 W E (oEqF G j W) (spn S C x0 x1) d' r m K :=
  w2_eqFL O hk .fixed b.ty (Kc.nf T b.mem) ⟨x0, x1, d', rfl, .inr ⟨_, b.ty, Kc.kt T b.mem, h⟩⟩
theorem w2_seqR (O : Opr G k S "__eq__" 2 (S_seq G S C)) (hk : k ≤ j) (Kc : KindsC G S) (b : BkD d' T) (h : K (.bl false) m) : W2 W E (oEqF G j W) d' (spn S C x0 x1) r m K :=
  w2_eqFR O hk .fixed b (Kc.sb T b.mem) ⟨x0, x1, d', rfl, .inr ⟨_, b.ty, Kc.kt T b.mem, h⟩⟩
/-- a Span and a Ratio -/
theorem w2_seqQ (O : Opr G k S "__eq__" 2 (S_seq G S C)) (hk : k ≤ j) (ic : InsK G.K C) (nf : PySem.W.notFirst G.K S (.ref C) = true) (kt : PySem.W.kitOne G.K (.ref C) (.ref S) = some false) (h : K (.bl false) m) : W2 W E (oEqF G j W) (spn S C x0 x1) (rq C x) r m K :=
  w2_eqFL O hk .fixed (.ins ic) nf ⟨x0, x1, _, rfl, .inr ⟨_, .ins ic, kt, h⟩⟩
theorem w2_qeqS (O : Opr G k C "__eq__" 2 (S_qeq G C)) (hk : k ≤ j) (ic : InsK G.K S) (nf : PySem.W.notFirst G.K C (.ref S) = true) (kt : PySem.W.kitOne G.K (.ref S) (.ref C) = some false) (h : K (.bl false) m) : W2 W E (oEqF G j W) (rq C x) (spn S C x0 x1) r m K :=
  w2_eqFL O hk .fixed (.ins ic) nf ⟨x, _, rfl, .inr ⟨_, .ins ic, kt, h⟩⟩
def S_sand (S C Z : Addr) : SpecD := fun ds m K E => ∃ x0 x1 y0 y1, ds = [spn S C x0 x1, spn S C y0 y1] ∧ Qb 3900 x0 ∧ Qb 3900 x1 ∧ Qb 3900 y0 ∧ Qb 3900 y1 ∧
  ((qmin x1 y1 < qmax x0 y0 ∧ E ⟨Z, [], []⟩ m) ∨ (qmax x0 y0 ≤ qmin x1 y1 ∧ K (spn S C (qmax x0 y0) (qmin x1 y1)) m))
theorem use_sand (a0 : Qb 3900 x0) (a1 : Qb 3900 x1) (b0 : Qb 3900 y0) (b1 : Qb 3900 y1) (le : qmax x0 y0 ≤ qmin x1 y1) (h : K (spn S C (qmax x0 y0) (qmin x1 y1)) m) : S_sand S C Z [spn S C x0 x1, spn S C y0 y1] m K F := ⟨_, _, _, _, rfl, a0, a1, b0, b1, .inr ⟨le, h⟩⟩
def S_satm (S C : Addr) : SpecD := fun ds m K _ => ∃ x0 x1 y0 y1, ds = [spn S C x0 x1, spn S C y0 y1] ∧ Qb 3900 x0 ∧ Qb 3900 x1 ∧ Qb 3900 y0 ∧ Qb 3900 y1 ∧
  (x1 ≤ y0 → K (.bl true) m) ∧ (¬ x1 ≤ y0 → y1 < x0 → K (.bl false) m) ∧ (¬ x1 ≤ y0 → ¬ y1 < x0 → K .non m)
def atmD (x0 x1 y0 y1 : Rat) : D := if x1 ≤ y0 then .bl true else if y1 < x0 then .bl false else .non
theorem use_satm (a0 : Qb 3900 x0) (a1 : Qb 3900 x1) (b0 : Qb 3900 y0) (b1 : Qb 3900 y1) (h : K (atmD x0 x1 y0 y1) m) : S_satm S C [spn S C x0 x1, spn S C y0 y1] m K F := by
  unfold atmD at h
  refine ⟨_, _, _, _, rfl, a0, a1, b0, b1, fun z => ?_, fun z1 z2 => ?_, fun z1 z2 => ?_⟩
  · rw [if_pos z] at h; exact h
  · rw [if_neg z1, if_pos z2] at h; exact h
  · rw [if_neg z1, if_neg z2] at h; exact h
def S_slen (S C : Addr) : SpecD := fun ds m K _ => ∃ x0 x1, ds = [spn S C x0 x1] ∧ Qb 3900 x0 ∧ Qb 3900 x1 ∧ K (rq C (x1 - x0)) m
theorem use_slen (a0 : Qb 3900 x0) (a1 : Qb 3900 x1) (h : K (rq C (x1 - x0)) m) : S_slen S C [spn S C x0 x1] m K F := ⟨_, _, rfl, a0, a1, h⟩
def S_spoint (S C : Addr) : SpecD := fun ds m K _ => ∃ x, ds = [rq C x] ∧ Qb 3900 x ∧ K (spn S C x x) m
theorem use_spoint (a0 : Qb 3900 x) (h : K (spn S C x x) m) : S_spoint S C [rq C x] m K F := ⟨_, rfl, a0, h⟩
/-! texts -/
def itxt (i : Int) : Str := Str.ofString (toString i)
def ptxt (a b : Int) : Str := if b = 1 then itxt a else itxt a ++ Str.ofString "/" ++ itxt b
def qtext (x : Rat) : Str := ptxt x.num x.den
def S_qtext (C : Addr) : SpecD := fun ds m K _ => ∃ x, ds = [rq C x] ∧ Qb 1900 x ∧ K (.str (qtext x)) m
theorem use_qtext (a : Qb 1900 x) (h : K (.str (qtext x)) m) : S_qtext C [rq C x] m K F := ⟨_, rfl, a, h⟩
def stext (x y : Rat) : Str := Str.ofString "[" ++ qtext x ++ Str.ofString ", " ++ qtext y ++ Str.ofString "]"
def S_stext (S C : Addr) : SpecD := fun ds m K _ => ∃ x0 x1, ds = [spn S C x0 x1] ∧ Qb 1900 x0 ∧ Qb 1900 x1 ∧ K (.str (stext x0 x1)) m
theorem use_stext (a0 : Qb 1900 x0) (a1 : Qb 1900 x1) (h : K (.str (stext x0 x1)) m) : S_stext S C [spn S C x0 x1] m K F := ⟨_, _, rfl, a0, a1, h⟩
end
theorem len_lit1 : (Str.ofString "/").length = 1 := rfl
theorem len_lit2 : (Str.ofString "[").length = 1 := rfl
theorem len_lit3 : (Str.ofString ", ").length = 2 := rfl
theorem len_lit4 : (Str.ofString "]").length = 1 := rfl
theorem big_line : 100000 ≤ sizeLine := by decide
theorem itxt_len {i : Int} (h : i.natAbs.log2 < 1920) : (itxt i).length ≤ 1921 := int_len (by decide) h
theorem qt_ok1 {a : Int} (h : a.natAbs.log2 < 1920) : (Str.ofString (toString a)).length + (Str.ofString "/").length ≤ sizeLine := by
  have := itxt_len h
  have := big_line
  unfold itxt at *
  rw [len_lit1]
  omega
theorem qt_ok2 {a b : Int} (h : a.natAbs.log2 < 1920) (k : b.natAbs.log2 < 1920) : (Str.ofString (toString a) ++ Str.ofString "/").length + (Str.ofString (toString b)).length ≤ sizeLine := by
  have := itxt_len h
  have := itxt_len k
  have := big_line
  unfold itxt at *
  rw [Str.length_append, len_lit1]
  omega
theorem ptxt_len {a b : Int} (h : a.natAbs.log2 < 1920) (k : b.natAbs.log2 < 1920) : (ptxt a b).length ≤ 4000 := by
  have := itxt_len h
  have := itxt_len k
  unfold ptxt
  split
  · omega
  · rw [Str.length_append, Str.length_append, len_lit1]
    omega
theorem qtext_len {x : Rat} (h : Qb 1900 x) : (qtext x).length ≤ 4000 := ptxt_len (by have := h.t.ok; omega) (by have := h.b.ok; omega)
section
variable {a b : Str}
theorem stext_ok1 (h : a.length ≤ 4000) : (Str.ofString "[").length + a.length ≤ sizeLine := by
  have := big_line
  rw [len_lit2]; omega
theorem stext_ok2 (h : a.length ≤ 4000) : (Str.ofString "[" ++ a).length + (Str.ofString ", ").length ≤ sizeLine := by
  have := big_line
  rw [Str.length_append, len_lit2, len_lit3]; omega
theorem stext_ok3 (h : a.length ≤ 4000) (k : b.length ≤ 4000) : (Str.ofString "[" ++ a ++ Str.ofString ", ").length + b.length ≤ sizeLine := by
  have := big_line
  rw [Str.length_append, Str.length_append, len_lit2, len_lit3]; omega
theorem stext_ok4 (h : a.length ≤ 4000) (k : b.length ≤ 4000) : (Str.ofString "[" ++ a ++ Str.ofString ", " ++ b).length + (Str.ofString "]").length ≤ sizeLine := by
  have := big_line
  rw [Str.length_append, Str.length_append, Str.length_append, len_lit2, len_lit3, len_lit4]; omega
end
end DL
set_option Elab.async false
set_option linter.all false
set_option maxRecDepth 100000
/-! MF: Euclid's turns, counted by Fibonacci's numbers. -/
namespace DL
def fibp : Nat → Nat × Nat
  | 0 => (0, 1)
  | n + 1 => ((fibp n).2, (fibp n).1 + (fibp n).2)
def fb (n : Nat) : Nat := (fibp n).1
theorem fb_two (n : Nat) : fb (n + 2) = fb n + fb (n + 1) := rfl
/-- k turns from (.., b): (u, v) -/
def EuF (b k u v : Nat) : Prop := (k = 0 ∧ v = b) ∨ (∃ j, k = j + 1 ∧ v < u ∧ fb (j + 1) * u + fb j * v ≤ b)
theorem EuF.step {b k u v : Nat} (h : EuF b k u v) (hv : 0 < v) : EuF b (k + 1) v (u % v) := by
  have hm := Nat.mod_lt u hv
  rcases h with ⟨rfl, rfl⟩ | ⟨j, rfl, lt, le⟩
  · refine .inr ⟨0, rfl, hm, ?_⟩
    show 1 * v + 0 * _ ≤ v
    omega
  · refine .inr ⟨j + 1, rfl, hm, ?_⟩
    have e := Nat.div_add_mod u v
    have q : 1 ≤ u / v := (Nat.one_le_div_iff hv).mpr (by omega)
    have q2 : v * 1 ≤ v * (u / v) := Nat.mul_le_mul_left _ q
    have q3 : v + u % v ≤ u := by omega
    have q4 : fb (j + 1) * (v + u % v) ≤ fb (j + 1) * u := Nat.mul_le_mul_left _ q3
    rw [show fb (j + 1 + 1) = fb j + fb (j + 1) from fb_two j]
    rw [Nat.mul_add] at q4
    rw [Nat.add_mul]
    omega
theorem fb_big : 2 ^ 1000 ≤ fb 1500 := by decide +kernel
theorem EuF.early {b u v : Nat} (h : EuF b 1500 u v) (hb : b < 2 ^ 1000) : False := by
  rcases h with ⟨h, _⟩ | ⟨j, e, lt, le⟩
  · exact absurd h (by decide)
  · obtain rfl : j = 1499 := by omega
    have h1 : fb 1500 * 1 ≤ fb 1500 * u := Nat.mul_le_mul_left _ (by omega)
    have h2 := fb_big
    have h3 : fb (1499 + 1) = fb 1500 := rfl
    rw [h3] at le
    omega
end DL
set_option Elab.async false
set_option linter.all false
set_option maxRecDepth 100000
set_option maxHeartbeats 4000000
namespace K06
open PySem PySem.Spec L2 DL
open PyProof.Rows hiding St
def top (i : Nat) : Stmt := PySem.Challenge.pw_fewcarry_k06_span_order.main.body.getD i (.Pass ⟨0, 0, 0, 0⟩)
abbrev s_Crossed___init__ : Stmt := inClass (top 7) 0
abbrev s_Ratio___init__ : Stmt := inClass (top 16) 0
abbrev s_Ratio_text : Stmt := inClass (top 16) 2
abbrev s_Ratio___eq__ : Stmt := inClass (top 16) 3
abbrev s_Ratio___sub__ : Stmt := inClass (top 16) 5
abbrev s_Ratio_compare : Stmt := inClass (top 16) 12
abbrev s_lesser : Stmt := top 17
abbrev s_greater : Stmt := top 18
abbrev s_Span___init__ : Stmt := inClass (top 20) 0
abbrev s_Span_point : Stmt := inClass (top 20) 1
abbrev s_Span___eq__ : Stmt := inClass (top 20) 2
abbrev s_Span___contains__ : Stmt := inClass (top 20) 3
abbrev s_Span___and__ : Stmt := inClass (top 20) 8
abbrev s_Span_length : Stmt := inClass (top 20) 12
abbrev s_Span_at_most : Stmt := inClass (top 20) 13
abbrev s_Span_text : Stmt := inClass (top 20) 14
abbrev s__law_start : Stmt := top 22
abbrev s__law_digit : Stmt := top 23
abbrev s__law_fraction : Stmt := top 24
abbrev s__law_less : Stmt := top 25
abbrev s__law_plus : Stmt := top 26
abbrev s__law_minus : Stmt := top 27
abbrev s__law_ends : Stmt := top 28
abbrev s__law_between : Stmt := top 29
abbrev s__law_second : Stmt := top 30
abbrev s__law_lowest : Stmt := top 31
abbrev s__law_written : Stmt := top 32
abbrev s__law_equals : Stmt := top 33
abbrev s__law_is_span : Stmt := top 34
abbrev s__law_order : Stmt := top 35
abbrev s__law_apart : Stmt := top 36
abbrev s__law_common : Stmt := top 37
abbrev s__law_same : Stmt := top 38
abbrev s__law_two : Stmt := top 39
abbrev s__law_contains : Stmt := top 40
abbrev s__law_crossed : Stmt := top 41
abbrev s__law_alone : Stmt := top 42
abbrev s_law : Stmt := top 43

theorem nd_self : (("self" : Str) == ("__debug__" : Str)) = false ∧ (("self" : Str) == ("__classdict__" : Str)) = false := ⟨by decide +kernel, by decide +kernel⟩
theorem nd_low : (("low" : Str) == ("__debug__" : Str)) = false ∧ (("low" : Str) == ("__classdict__" : Str)) = false := ⟨by decide +kernel, by decide +kernel⟩
theorem nd_high : (("high" : Str) == ("__debug__" : Str)) = false ∧ (("high" : Str) == ("__classdict__" : Str)) = false := ⟨by decide +kernel, by decide +kernel⟩
theorem nd_top : (("top" : Str) == ("__debug__" : Str)) = false ∧ (("top" : Str) == ("__classdict__" : Str)) = false := ⟨by decide +kernel, by decide +kernel⟩
theorem nd_bottom : (("bottom" : Str) == ("__debug__" : Str)) = false ∧ (("bottom" : Str) == ("__classdict__" : Str)) = false := ⟨by decide +kernel, by decide +kernel⟩
theorem nd_shared : (("shared" : Str) == ("__debug__" : Str)) = false ∧ (("shared" : Str) == ("__classdict__" : Str)) = false := ⟨by decide +kernel, by decide +kernel⟩
theorem nd_other : (("other" : Str) == ("__debug__" : Str)) = false ∧ (("other" : Str) == ("__classdict__" : Str)) = false := ⟨by decide +kernel, by decide +kernel⟩
theorem nd_left : (("left" : Str) == ("__debug__" : Str)) = false ∧ (("left" : Str) == ("__classdict__" : Str)) = false := ⟨by decide +kernel, by decide +kernel⟩
theorem nd_right : (("right" : Str) == ("__debug__" : Str)) = false ∧ (("right" : Str) == ("__classdict__" : Str)) = false := ⟨by decide +kernel, by decide +kernel⟩
theorem nd_first : (("first" : Str) == ("__debug__" : Str)) = false ∧ (("first" : Str) == ("__classdict__" : Str)) = false := ⟨by decide +kernel, by decide +kernel⟩
theorem nd_second : (("second" : Str) == ("__debug__" : Str)) = false ∧ (("second" : Str) == ("__classdict__" : Str)) = false := ⟨by decide +kernel, by decide +kernel⟩
theorem nd_ratio : (("ratio" : Str) == ("__debug__" : Str)) = false ∧ (("ratio" : Str) == ("__classdict__" : Str)) = false := ⟨by decide +kernel, by decide +kernel⟩
theorem nd_script : (("script" : Str) == ("__debug__" : Str)) = false ∧ (("script" : Str) == ("__classdict__" : Str)) = false := ⟨by decide +kernel, by decide +kernel⟩
theorem nd_cell : (("cell" : Str) == ("__debug__" : Str)) = false ∧ (("cell" : Str) == ("__classdict__" : Str)) = false := ⟨by decide +kernel, by decide +kernel⟩
theorem nd_pot : (("pot" : Str) == ("__debug__" : Str)) = false ∧ (("pot" : Str) == ("__classdict__" : Str)) = false := ⟨by decide +kernel, by decide +kernel⟩
theorem nd_many : (("many" : Str) == ("__debug__" : Str)) = false ∧ (("many" : Str) == ("__classdict__" : Str)) = false := ⟨by decide +kernel, by decide +kernel⟩
theorem nd_digit : (("digit" : Str) == ("__debug__" : Str)) = false ∧ (("digit" : Str) == ("__classdict__" : Str)) = false := ⟨by decide +kernel, by decide +kernel⟩
theorem nd_kind : (("kind" : Str) == ("__debug__" : Str)) = false ∧ (("kind" : Str) == ("__classdict__" : Str)) = false := ⟨by decide +kernel, by decide +kernel⟩
theorem nd_p : (("p" : Str) == ("__debug__" : Str)) = false ∧ (("p" : Str) == ("__classdict__" : Str)) = false := ⟨by decide +kernel, by decide +kernel⟩
theorem nd_q : (("q" : Str) == ("__debug__" : Str)) = false ∧ (("q" : Str) == ("__classdict__" : Str)) = false := ⟨by decide +kernel, by decide +kernel⟩
theorem nd_s : (("s" : Str) == ("__debug__" : Str)) = false ∧ (("s" : Str) == ("__classdict__" : Str)) = false := ⟨by decide +kernel, by decide +kernel⟩
theorem nd_sixths : (("sixths" : Str) == ("__debug__" : Str)) = false ∧ (("sixths" : Str) == ("__classdict__" : Str)) = false := ⟨by decide +kernel, by decide +kernel⟩
theorem nd_way : (("way" : Str) == ("__debug__" : Str)) = false ∧ (("way" : Str) == ("__classdict__" : Str)) = false := ⟨by decide +kernel, by decide +kernel⟩
theorem nd_step : (("step" : Str) == ("__debug__" : Str)) = false ∧ (("step" : Str) == ("__classdict__" : Str)) = false := ⟨by decide +kernel, by decide +kernel⟩
theorem nd_x : (("x" : Str) == ("__debug__" : Str)) = false ∧ (("x" : Str) == ("__classdict__" : Str)) = false := ⟨by decide +kernel, by decide +kernel⟩
theorem nd_u : (("u" : Str) == ("__debug__" : Str)) = false ∧ (("u" : Str) == ("__classdict__" : Str)) = false := ⟨by decide +kernel, by decide +kernel⟩
theorem nd_v : (("v" : Str) == ("__debug__" : Str)) = false ∧ (("v" : Str) == ("__classdict__" : Str)) = false := ⟨by decide +kernel, by decide +kernel⟩
theorem nd_k : (("k" : Str) == ("__debug__" : Str)) = false ∧ (("k" : Str) == ("__classdict__" : Str)) = false := ⟨by decide +kernel, by decide +kernel⟩
theorem nd_rest : (("rest" : Str) == ("__debug__" : Str)) = false ∧ (("rest" : Str) == ("__classdict__" : Str)) = false := ⟨by decide +kernel, by decide +kernel⟩
theorem nd_told : (("told" : Str) == ("__debug__" : Str)) = false ∧ (("told" : Str) == ("__classdict__" : Str)) = false := ⟨by decide +kernel, by decide +kernel⟩
theorem nd_a : (("a" : Str) == ("__debug__" : Str)) = false ∧ (("a" : Str) == ("__classdict__" : Str)) = false := ⟨by decide +kernel, by decide +kernel⟩
theorem nd_b : (("b" : Str) == ("__debug__" : Str)) = false ∧ (("b" : Str) == ("__classdict__" : Str)) = false := ⟨by decide +kernel, by decide +kernel⟩
theorem nd_t : (("t" : Str) == ("__debug__" : Str)) = false ∧ (("t" : Str) == ("__classdict__" : Str)) = false := ⟨by decide +kernel, by decide +kernel⟩
theorem nd_e : (("e" : Str) == ("__debug__" : Str)) = false ∧ (("e" : Str) == ("__classdict__" : Str)) = false := ⟨by decide +kernel, by decide +kernel⟩
theorem nd_due : (("due" : Str) == ("__debug__" : Str)) = false ∧ (("due" : Str) == ("__classdict__" : Str)) = false := ⟨by decide +kernel, by decide +kernel⟩
theorem nd_row : (("row" : Str) == ("__debug__" : Str)) = false ∧ (("row" : Str) == ("__classdict__" : Str)) = false := ⟨by decide +kernel, by decide +kernel⟩
theorem nd_text : (("text" : Str) == ("__debug__" : Str)) = false ∧ (("text" : Str) == ("__classdict__" : Str)) = false := ⟨by decide +kernel, by decide +kernel⟩
theorem nd_y : (("y" : Str) == ("__debug__" : Str)) = false ∧ (("y" : Str) == ("__classdict__" : Str)) = false := ⟨by decide +kernel, by decide +kernel⟩
theorem nd_Apart : (("Apart" : Str) == ("__debug__" : Str)) = false ∧ (("Apart" : Str) == ("__classdict__" : Str)) = false := ⟨by decide +kernel, by decide +kernel⟩
theorem nd_BadNumber : (("BadNumber" : Str) == ("__debug__" : Str)) = false ∧ (("BadNumber" : Str) == ("__classdict__" : Str)) = false := ⟨by decide +kernel, by decide +kernel⟩
theorem nd_CarryError : (("CarryError" : Str) == ("__debug__" : Str)) = false ∧ (("CarryError" : Str) == ("__classdict__" : Str)) = false := ⟨by decide +kernel, by decide +kernel⟩
theorem nd_Crossed : (("Crossed" : Str) == ("__debug__" : Str)) = false ∧ (("Crossed" : Str) == ("__classdict__" : Str)) = false := ⟨by decide +kernel, by decide +kernel⟩
theorem nd_OutOfBounds : (("OutOfBounds" : Str) == ("__debug__" : Str)) = false ∧ (("OutOfBounds" : Str) == ("__classdict__" : Str)) = false := ⟨by decide +kernel, by decide +kernel⟩
theorem nd_ZeroBottom : (("ZeroBottom" : Str) == ("__debug__" : Str)) = false ∧ (("ZeroBottom" : Str) == ("__classdict__" : Str)) = false := ⟨by decide +kernel, by decide +kernel⟩
abbrev N_Crossed___init__ : List Str := ["self", "low", "high"]
theorem sc_Crossed___init__ : FnScope N_Crossed___init__ ["self", "low", "high"] (defScope s_Crossed___init__) := ⟨rfl, rfl, rfl, by decide +kernel, rfl, by decide +kernel, by decide +kernel⟩
abbrev N_Ratio___init__ : List Str := ["self", "top", "bottom", "shared"]
theorem sc_Ratio___init__ : FnScope N_Ratio___init__ ["self", "top", "bottom"] (defScope s_Ratio___init__) := ⟨rfl, rfl, rfl, by decide +kernel, rfl, by decide +kernel, by decide +kernel⟩
abbrev N_Ratio_text : List Str := ["self"]
theorem sc_Ratio_text : FnScope N_Ratio_text ["self"] (defScope s_Ratio_text) := ⟨rfl, rfl, rfl, by decide +kernel, rfl, by decide +kernel, by decide +kernel⟩
abbrev N_Ratio___eq__ : List Str := ["self", "other"]
theorem sc_Ratio___eq__ : FnScope N_Ratio___eq__ ["self", "other"] (defScope s_Ratio___eq__) := ⟨rfl, rfl, rfl, by decide +kernel, rfl, by decide +kernel, by decide +kernel⟩
abbrev N_Ratio___sub__ : List Str := ["self", "other"]
theorem sc_Ratio___sub__ : FnScope N_Ratio___sub__ ["self", "other"] (defScope s_Ratio___sub__) := ⟨rfl, rfl, rfl, by decide +kernel, rfl, by decide +kernel, by decide +kernel⟩
abbrev N_Ratio_compare : List Str := ["self", "other", "left", "right"]
theorem sc_Ratio_compare : FnScope N_Ratio_compare ["self", "other"] (defScope s_Ratio_compare) := ⟨rfl, rfl, rfl, by decide +kernel, rfl, by decide +kernel, by decide +kernel⟩
abbrev N_lesser : List Str := ["first", "second"]
theorem sc_lesser : FnScope N_lesser ["first", "second"] (defScope s_lesser) := ⟨rfl, rfl, rfl, by decide +kernel, rfl, by decide +kernel, by decide +kernel⟩
abbrev N_greater : List Str := ["first", "second"]
theorem sc_greater : FnScope N_greater ["first", "second"] (defScope s_greater) := ⟨rfl, rfl, rfl, by decide +kernel, rfl, by decide +kernel, by decide +kernel⟩
abbrev N_Span___init__ : List Str := ["self", "low", "high"]
theorem sc_Span___init__ : FnScope N_Span___init__ ["self", "low", "high"] (defScope s_Span___init__) := ⟨rfl, rfl, rfl, by decide +kernel, rfl, by decide +kernel, by decide +kernel⟩
abbrev N_Span_point : List Str := ["ratio"]
theorem sc_Span_point : FnScope N_Span_point ["ratio"] (defScope s_Span_point) := ⟨rfl, rfl, rfl, by decide +kernel, rfl, by decide +kernel, by decide +kernel⟩
abbrev N_Span___eq__ : List Str := ["self", "other"]
theorem sc_Span___eq__ : FnScope N_Span___eq__ ["self", "other"] (defScope s_Span___eq__) := ⟨rfl, rfl, rfl, by decide +kernel, rfl, by decide +kernel, by decide +kernel⟩
abbrev N_Span___contains__ : List Str := ["self", "ratio"]
theorem sc_Span___contains__ : FnScope N_Span___contains__ ["self", "ratio"] (defScope s_Span___contains__) := ⟨rfl, rfl, rfl, by decide +kernel, rfl, by decide +kernel, by decide +kernel⟩
abbrev N_Span___and__ : List Str := ["self", "other", "low", "high"]
theorem sc_Span___and__ : FnScope N_Span___and__ ["self", "other"] (defScope s_Span___and__) := ⟨rfl, rfl, rfl, by decide +kernel, rfl, by decide +kernel, by decide +kernel⟩
abbrev N_Span_length : List Str := ["self"]
theorem sc_Span_length : FnScope N_Span_length ["self"] (defScope s_Span_length) := ⟨rfl, rfl, rfl, by decide +kernel, rfl, by decide +kernel, by decide +kernel⟩
abbrev N_Span_at_most : List Str := ["self", "other"]
theorem sc_Span_at_most : FnScope N_Span_at_most ["self", "other"] (defScope s_Span_at_most) := ⟨rfl, rfl, rfl, by decide +kernel, rfl, by decide +kernel, by decide +kernel⟩
abbrev N_Span_text : List Str := ["self"]
theorem sc_Span_text : FnScope N_Span_text ["self"] (defScope s_Span_text) := ⟨rfl, rfl, rfl, by decide +kernel, rfl, by decide +kernel, by decide +kernel⟩
abbrev N__law_start : List Str := ["script", "cell"]
theorem sc__law_start : FnScope N__law_start ["script"] (defScope s__law_start) := ⟨rfl, rfl, rfl, by decide +kernel, rfl, by decide +kernel, by decide +kernel⟩
abbrev N__law_digit : List Str := ["pot", "many", "digit"]
theorem sc__law_digit : FnScope N__law_digit ["pot", "many"] (defScope s__law_digit) := ⟨rfl, rfl, rfl, by decide +kernel, rfl, by decide +kernel, by decide +kernel⟩
abbrev N__law_fraction : List Str := ["pot", "kind", "top"]
theorem sc__law_fraction : FnScope N__law_fraction ["pot"] (defScope s__law_fraction) := ⟨rfl, rfl, rfl, by decide +kernel, rfl, by decide +kernel, by decide +kernel⟩
abbrev N__law_less : List Str := ["p", "q"]
theorem sc__law_less : FnScope N__law_less ["p", "q"] (defScope s__law_less) := ⟨rfl, rfl, rfl, by decide +kernel, rfl, by decide +kernel, by decide +kernel⟩
abbrev N__law_plus : List Str := ["p", "q"]
theorem sc__law_plus : FnScope N__law_plus ["p", "q"] (defScope s__law_plus) := ⟨rfl, rfl, rfl, by decide +kernel, rfl, by decide +kernel, by decide +kernel⟩
abbrev N__law_minus : List Str := ["p", "q"]
theorem sc__law_minus : FnScope N__law_minus ["p", "q"] (defScope s__law_minus) := ⟨rfl, rfl, rfl, by decide +kernel, rfl, by decide +kernel, by decide +kernel⟩
abbrev N__law_ends : List Str := ["pot", "kind", "p", "q"]
theorem sc__law_ends : FnScope N__law_ends ["pot"] (defScope s__law_ends) := ⟨rfl, rfl, rfl, by decide +kernel, rfl, by decide +kernel, by decide +kernel⟩
abbrev N__law_between : List Str := ["pot", "s", "sixths", "way"]
theorem sc__law_between : FnScope N__law_between ["pot", "s"] (defScope s__law_between) := ⟨rfl, rfl, rfl, by decide +kernel, rfl, by decide +kernel, by decide +kernel⟩
abbrev N__law_second : List Str := ["pot", "s", "step", "kind", "q", "low", "x"]
theorem sc__law_second : FnScope N__law_second ["pot", "s", "step"] (defScope s__law_second) := ⟨rfl, rfl, rfl, by decide +kernel, rfl, by decide +kernel, by decide +kernel⟩
abbrev N__law_lowest : List Str := ["p", "u", "v", "k", "rest"]
theorem sc__law_lowest : FnScope N__law_lowest ["p"] (defScope s__law_lowest) := ⟨rfl, rfl, rfl, by decide +kernel, rfl, by decide +kernel, by decide +kernel⟩
abbrev N__law_written : List Str := ["p"]
theorem sc__law_written : FnScope N__law_written ["p"] (defScope s__law_written) := ⟨rfl, rfl, rfl, by decide +kernel, rfl, by decide +kernel, by decide +kernel⟩
abbrev N__law_equals : List Str := ["told", "p"]
theorem sc__law_equals : FnScope N__law_equals ["told", "p"] (defScope s__law_equals) := ⟨rfl, rfl, rfl, by decide +kernel, rfl, by decide +kernel, by decide +kernel⟩
abbrev N__law_is_span : List Str := ["told", "low", "high"]
theorem sc__law_is_span : FnScope N__law_is_span ["told", "low", "high"] (defScope s__law_is_span) := ⟨rfl, rfl, rfl, by decide +kernel, rfl, by decide +kernel, by decide +kernel⟩
abbrev N__law_order : List Str := ["a", "b", "s", "t", "told"]
theorem sc__law_order : FnScope N__law_order ["a", "b", "s", "t"] (defScope s__law_order) := ⟨rfl, rfl, rfl, by decide +kernel, rfl, by decide +kernel, by decide +kernel⟩
abbrev N__law_apart : List Str := ["a", "b", "told", "e"]
theorem sc__law_apart : FnScope N__law_apart ["a", "b"] (defScope s__law_apart) := ⟨rfl, rfl, rfl, by decide +kernel, rfl, by decide +kernel, by decide +kernel⟩
abbrev N__law_common : List Str := ["a", "b", "s", "t", "low", "high"]
theorem sc__law_common : FnScope N__law_common ["a", "b", "s", "t"] (defScope s__law_common) := ⟨rfl, rfl, rfl, by decide +kernel, rfl, by decide +kernel, by decide +kernel⟩
abbrev N__law_same : List Str := ["a", "b", "s", "t", "due"]
theorem sc__law_same : FnScope N__law_same ["a", "b", "s", "t"] (defScope s__law_same) := ⟨rfl, rfl, rfl, by decide +kernel, rfl, by decide +kernel, by decide +kernel⟩
abbrev N__law_two : List Str := ["a", "b", "s", "t"]
theorem sc__law_two : FnScope N__law_two ["a", "b", "s", "t"] (defScope s__law_two) := ⟨rfl, rfl, rfl, by decide +kernel, rfl, by decide +kernel, by decide +kernel⟩
abbrev N__law_contains : List Str := ["a", "s", "p"]
theorem sc__law_contains : FnScope N__law_contains ["a", "s", "p"] (defScope s__law_contains) := ⟨rfl, rfl, rfl, by decide +kernel, rfl, by decide +kernel, by decide +kernel⟩
abbrev N__law_crossed : List Str := ["low", "high", "e"]
theorem sc__law_crossed : FnScope N__law_crossed ["low", "high"] (defScope s__law_crossed) := ⟨rfl, rfl, rfl, by decide +kernel, rfl, by decide +kernel, by decide +kernel⟩
abbrev N__law_alone : List Str := ["a", "s", "step", "row", "text", "other", "p"]
theorem sc__law_alone : FnScope N__law_alone ["a", "s", "step"] (defScope s__law_alone) := ⟨rfl, rfl, rfl, by decide +kernel, rfl, by decide +kernel, by decide +kernel⟩
abbrev N_law : List Str := ["script", "pot", "s", "step", "t", "x", "y", "a", "b", "p"]
theorem sc_law : FnScope N_law ["script"] (defScope s_law) := ⟨rfl, rfl, rfl, by decide +kernel, rfl, by decide +kernel, by decide +kernel⟩

theorem bt_abs : bootBuiltins "abs" = some (.builtin "abs") := by decide +kernel
theorem bt_len : bootBuiltins "len" = some (.builtin "len") := by decide +kernel
theorem bt_min : bootBuiltins "min" = some (.builtin "min") := by decide +kernel
theorem bt_max : bootBuiltins "max" = some (.builtin "max") := by decide +kernel
theorem bt_int : bootBuiltins "int" = some (.type "int") := by decide +kernel
theorem bt_bool : bootBuiltins "bool" = some (.type "bool") := by decide +kernel
theorem bt_str : bootBuiltins "str" = some (.type "str") := by decide +kernel
theorem bt_ValueError : bootBuiltins "ValueError" = some (.type "ValueError") := by decide +kernel
theorem bt_isinstance : bootBuiltins "isinstance" = some (.builtin "isinstance") := by decide +kernel
theorem bt_all : bootBuiltins "all" = some (.builtin "all") := by decide +kernel
theorem bt_any : bootBuiltins "any" = some (.builtin "any") := by decide +kernel

structure Txt (G : Gx) (C_Ratio C_Span C_Apart C_Crossed C_CarryError : Addr) : Prop where
  n_abs : G.mg "abs" = none
  n_len : G.mg "len" = none
  n_int : G.mg "int" = none
  n_bool : G.mg "bool" = none
  n_str : G.mg "str" = none
  n_range : G.mg "range" = none
  n_isinstance : G.mg "isinstance" = none
  n_ValueError : G.mg "ValueError" = none
  mg_gcd : G.mg "gcd" = some (.builtin "math.gcd")
  mg_Ratio : G.mg "Ratio" = some (.ref C_Ratio)
  mg_Span : G.mg "Span" = some (.ref C_Span)
  mg_Apart : G.mg "Apart" = some (.ref C_Apart)
  mg_Crossed : G.mg "Crossed" = some (.ref C_Crossed)
  mg_CarryError : G.mg "CarryError" = some (.ref C_CarryError)
  R_Ratio : RatC G.K C_Ratio
  S_Span : SpnC G.K C_Span
  kinds_Ratio : KindsC G C_Ratio
  kinds_Span : KindsC G C_Span
  x0_Apart : Exc0 G "Apart" C_Apart
  XC_Apart : ExK G.K C_Apart
  x_Crossed : Exc G "Crossed" C_Crossed ["low", "high"]
  XC_Crossed : ExK G.K C_Crossed
  no_Crossed_low : PySem.W.findIn G.K (.ref C_Crossed) "low" = some none
  no_Crossed_high : PySem.W.findIn G.K (.ref C_Crossed) "high" = some none
  is_Ratio_Ratio : PySem.W.kitOne G.K (.ref C_Ratio) (.ref C_Ratio) = some true
  is_Span_Span : PySem.W.kitOne G.K (.ref C_Span) (.ref C_Span) = some true
  is_Ratio_Span : PySem.W.kitOne G.K (.ref C_Ratio) (.ref C_Span) = some false
  is_Span_Ratio : PySem.W.kitOne G.K (.ref C_Span) (.ref C_Ratio) = some false
  is_Apart_Apart : PySem.W.kitOne G.K (.ref C_Apart) (.ref C_Apart) = some true
  is_Apart_Crossed : PySem.W.kitOne G.K (.ref C_Apart) (.ref C_Crossed) = some false
  is_Crossed_Crossed : PySem.W.kitOne G.K (.ref C_Crossed) (.ref C_Crossed) = some true
  is_Crossed_Apart : PySem.W.kitOne G.K (.ref C_Crossed) (.ref C_Apart) = some false
  nf_Span_Ratio : PySem.W.notFirst G.K C_Span (.ref C_Ratio) = true
  nf_Ratio_Span : PySem.W.notFirst G.K C_Ratio (.ref C_Span) = true
  isT_Apart_ValueError : PySem.W.kitOne G.K (.ref C_Apart) (.type "ValueError") = some true
  isT_Crossed_ValueError : PySem.W.kitOne G.K (.ref C_Crossed) (.type "ValueError") = some true
  ex_Apart_CarryError : PySem.W.exmOne G.K (.ref C_Apart) (.ref C_CarryError) = some true
  ex_Crossed_CarryError : PySem.W.exmOne G.K (.ref C_Crossed) (.ref C_CarryError) = some true

/-! one step, by the goal's head -/

/-! Ratio and Span by numbers: their promises used -/

local macro_rules | `(tactic| walk_at "useWe_1") => `(tactic| first | (with_reducible refine we_mt ?_) | (with_reducible refine we_ratQ ?_) | (with_reducible refine we_ratQ1 ?_) | (with_reducible refine we_spn ?_) | (with_reducible refine we_sta ?_) | fail)
local macro_rules | `(tactic| walk_at "sWe_1") => `(tactic| first
  | ((with_reducible refine we_var (d := ?d) ?hv ?hk); case hv => rfl)
  | (with_reducible first
    | refine we_cint ?_ | refine we_2 ?_ | refine we_fldF ?_ | refine we_cl0 ?_ | refine we_tup ?_ | refine we_1 ?_ | refine we_c2 ?_ | refine we_cbl ?_ | refine we_cnon ?_ | refine we_cty ?_ | refine we_cref ?_
    | refine we_op ?_ | refine we_andV ?_ | refine we_orV ?_ | refine we_notV ?_ | refine we_3 ?_ | refine we_ifx ?_ | refine we_cstr ?_ | refine we_clH ?_)
  | walk_at "useWe_1")
local macro_rules | `(tactic| walk_at "useW2_1") => `(tactic| first
  | (with_reducible refine w2_qeq (by assumption) (by decide) (by assumption) ?_) | (with_reducible refine w2_seq (by assumption) (by decide) (by assumption) ?_)
  | (with_reducible refine w2_seqQ (by assumption) (by decide) (by assumption) (by assumption) (by assumption) ?_) | (with_reducible refine w2_qeqS (by assumption) (by decide) (by assumption) (by assumption) (by assumption) ?_)
  | (with_reducible refine w2_seqL (by assumption) (by decide) (by assumption) (by constructor) ?_) | (with_reducible refine w2_seqR (by assumption) (by decide) (by assumption) (by constructor) ?_)
  | (with_reducible refine w2_addStr ?_ ?_) | (with_reducible refine w2_neSame ?_) | (with_reducible refine w2_eqSame ?_) | (with_reducible refine w2_eqHFI ?_) | (with_reducible refine w2_neHFI ?_)
  | (with_reducible refine w2_andO (by assumption) (by decide) .fixed .fixed ?_)
  | (with_reducible refine w2_addO (by assumption) (by decide) .fixed .fixed ?_) | (with_reducible refine w2_subO (by assumption) (by decide) .fixed .fixed ?_) | (with_reducible refine w2_mulO (by assumption) (by decide) .fixed .fixed ?_) | (with_reducible refine w1_negO (by assumption) (by decide) .fixed ?_) | (with_reducible refine w2_inO (by assumption) (by decide) .fixed ?_) | fail)
local macro_rules | `(tactic| walk_at "sW2_1") => `(tactic| first
  | (with_reducible first
    | refine w2_add ?_ | refine w2_sub ?_ | refine w2_mul ⟨?_, ?_⟩ | refine w2_fdiv ⟨?_, ?_⟩ | refine w2_mod ⟨?_, ?_⟩ | refine w2_pow ⟨?_, ?_⟩ | refine w2_eqI ?_ | refine w2_neI ?_ | refine w2_lt ?_ | refine w2_le ?_ | refine w2_gt ?_ | refine w2_ge ?_ | refine w2_eqFI ?_ | refine w2_neFI ?_)
  | ((with_reducible refine w2_ixT (d := ?d) ⟨?hv, ?hk⟩); case hv => rfl)
  | ((with_reducible refine w2_ixL (d := ?d) ⟨?hv, ?hk⟩); case hv => rfl)
  | ((with_reducible refine w2_ixM (d := ?d) .head ⟨?hv, ?hk⟩); case hv => rfl)
  | (with_reducible first
    | refine w2_eqIH ?_ | refine w2_neIH ?_ | refine w2_mulH ⟨?_, ?_⟩ | refine w2_addH ?_ | refine w2_subH ?_ | refine w2_isN ?_ | refine w2_notN ?_ | refine w2_isB ?_ | refine w2_notB ?_)
  | walk_at "useW2_1")
local macro_rules | `(tactic| walk_at "sWa_1") => `(tactic| with_reducible first | refine wa_nil ?_ | refine wa_cons ?_)
local macro_rules | `(tactic| walk_at "useWs_1") => `(tactic| first | (with_reducible refine ws_rs0 ?_) | (with_reducible refine ws_rs ?_) | fail)
local macro_rules | `(tactic| walk_at "sWs_1") => `(tactic| first
  | (with_reducible first | refine ws_seq ?_ | refine ws_ret ?_ | refine ws_asg ?_ | refine ws_next ?_ | refine ws_drop ?_ | refine ws_par ?_ | refine ws_par3 ?_ | refine ws_fldN ?_ | refine ws_brk ?_ | refine ws_cont ?_)
  | walk_at "useWs_1")
local macro_rules | `(tactic| walk_at "sWt_1") => `(tactic| with_reducible first | refine wt_test ?_ | refine wt_tr ?_ | refine wt_and ?_ | refine wt_or ?_ | refine wt_not ?_)
local macro_rules | `(tactic| walk_at "useWc_1") => `(tactic| fail)
local macro_rules | `(tactic| walk_at "sWc_1") => `(tactic| first
  | (with_reducible first | refine wc_int ?_ | refine wc_abs ?_ | refine wc_min ?_ | refine wc_gcd ?_ | refine wc_isiT .int kit_ii ?_ | refine wc_isiT .int kit_ib ?_ | refine wc_len .lst ?_ | refine wc_len .tup ?_ | refine wc_strI ?_ ?_)
  | walk_at "useWc_1")
local macro_rules | `(tactic| walk_at "sWg_1") => `(tactic| with_reducible first | refine wg_name ?_ | refine wg_subM ?_ | refine wg_tup rfl ?_)
local macro_rules | `(tactic| walk_at "sW1_1") => `(tactic| first | (with_reducible refine w1_neg ?_) | walk_at "useW2_1")
local macro_rules | `(tactic| walk_at "sWgs_1") => `(tactic| with_reducible first | refine wgs_cons ?_ | refine wgs_nil ?_)
local macro_rules | `(tactic| walk_at "useq_1") => `(tactic| first
  | (with_reducible refine fld_low (by assumption) ?_) | (with_reducible refine fld_high (by assumption) ?_)
  | (with_reducible refine mt_of0 (by assumption) (by decide) ?_) | (with_reducible refine RatQ.mk ?_ ?_ ?_)
  | (with_reducible refine use_qcmp ?_ ?_ ?_) | (with_reducible refine use_qsign ?_) | (with_reducible refine use_qdown ?_ ?_) | (with_reducible refine use_qup ?_ ?_)
  | (with_reducible refine use_qleast ?_ ?_ ?_) | (with_reducible refine use_qgreat ?_ ?_ ?_)
  | (with_reducible refine use_qadd ?_ ?_ ?_) | (with_reducible refine use_qsub ?_ ?_ ?_) | (with_reducible refine use_qmul ?_ ?_ ?_) | (with_reducible refine use_qdiv ?_ ?_ ?_ ?_) | (with_reducible refine use_qneg ?_ ?_)
  | (with_reducible refine SpnA.mk ?_ ?_ ?_ ?_)
  | (with_reducible refine use_s2 ?_ ?_) | (with_reducible refine use_sneg ?_ ?_ ?_ ?_) | (with_reducible refine use_scont ?_ ?_ ?_ ?_) | (with_reducible refine use_sdiv ?_ ?_ ?_)
  | (with_reducible refine setN_low (by assumption) ?_) | (with_reducible refine setN_high (by assumption) ?_)
  | fail)
local macro_rules | `(tactic| walk_at "useq3_1") => `(tactic| first
  | (with_reducible refine use_sand ?_ ?_ ?_ ?_ ?_ ?_) | (with_reducible refine use_satm ?_ ?_ ?_ ?_ ?_) | (with_reducible refine use_slen ?_ ?_ ?_) | (with_reducible refine use_spoint ?_ ?_) | (with_reducible refine use_qtext ?_ ?_) | (with_reducible refine use_stext ?_ ?_ ?_) | (with_reducible refine SpnX.mk ?_ ?_ ?_ ?_) | walk_at "useq_1")
local macro_rules | `(tactic| walk_at "use_1") => `(tactic| first | walk_at "useq3_1" | fail)
local macro_rules | `(tactic| walk_at "sX_1") => `(tactic| first
  | (with_reducible refine ⟨_, rfl, ?_⟩)
  | (with_reducible refine fld_top (by assumption) ?_) | (with_reducible refine fld_bottom (by assumption) ?_)
  | (with_reducible refine ⟨_, .bl, ?_⟩)
  | ((with_reducible refine ⟨?h, ?_⟩); case h => rfl)
  | (with_reducible refine ⟨_, _, rfl, ?_⟩)
  | (with_reducible refine ⟨_, _, _, rfl, ?_⟩)
  | walk_at "use_1"
  | (with_reducible refine setN_top (by assumption) ?_) | (with_reducible refine setN_bottom (by assumption) ?_)
  | ((with_reducible refine ⟨_, _, _, ?j, _, rfl, rfl, .head, ?h, .head, ?_⟩); case h => rfl)
  | fail)
local macro_rules | `(tactic| walk_at "st_1") => `(tactic| first
  | ((with_reducible show We _ _ _ _ _ _); walk_at "sWe_1")
  | ((with_reducible show W2 _ _ _ _ _ _ _ _); walk_at "sW2_1")
  | ((with_reducible show Wa _ _ _ _ _ _); walk_at "sWa_1")
  | ((with_reducible show Ws _ _ _ _ _ _); walk_at "sWs_1")
  | ((with_reducible show Wt _ _ _ _ _ _); walk_at "sWt_1")
  | ((with_reducible show Wc _ _ _ _ _ _ _); walk_at "sWc_1")
  | ((with_reducible show Wg _ _ _ _ _ _ _); walk_at "sWg_1")
  | ((with_reducible show W1 _ _ _ _ _ _ _); walk_at "sW1_1")
  | ((with_reducible show Wgs _ _ _ _ _ _ _); walk_at "sWgs_1")
  | walk_at "sX_1" | fail)
local macro_rules | `(tactic| walk_at "wif_1") => `(tactic| (with_reducible refine ws_if ?_))
local macro_rules | `(tactic| walk_at "br_1") => `(tactic| ((with_reducible refine ⟨fun hb => ?_, fun hb => ?_⟩) <;> (try simp only [decide_eq_true_eq, decide_eq_false_iff_not, Bool.not_eq_true', Bool.not_eq_false', Bool.and_eq_true, Bool.or_eq_true, reduceCtorEq, List.length_map, Bool.not_true, Bool.not_false, DL.isNon, not_true_eq_false, not_false_eq_true, Classical.not_not, List.all_cons, List.all_nil, id_eq, Bool.and_self, Bool.true_and, decide_true, decide_false] at hb)))
local macro_rules | `(tactic| walk_at "go_1") => `(tactic| repeat' (first | walk_at "st_1" | walk_at "wif_1" | walk_at "br_1" | fail))
local macro_rules | `(tactic| walk_at "dl_1") => `(tactic| repeat (first | walk_at "st_1" | walk_at "wif_1" | fail))

section
variable {G : Gx} {C_Ratio C_Span C_Apart C_Crossed C_CarryError : Addr}
theorem ok_digit (T : Txt G C_Ratio C_Span C_Apart C_Crossed C_CarryError) {f : Addr} {fd : FuncData} (F : L2.Fun G.K "_law_digit" "_law_digit" s__law_digit f fd) (b : Binds G.K fd ["pot", "many"] []) : Fnx G 1 f 2 S_digit [] := by
  refine fnx_of F sc__law_digit rfl b .nil rfl (fun cdv A outer s H FF hr tk => ⟨_, (pss_cons (ps_if (PW.pt (pw_and (pt_cm (os_eqF hr tk) (pe_ix ix_seq (pe_var (i := 0) rfl (Or.inl rfl) nd_pot.1 nd_pot.2) pe_int (fun _ _ => rfl)) pe_int (nomark _)) (pw_and1 (pt_cm os_lt (pe_ix ix_seq (pe_var (i := 0) rfl (Or.inl rfl) nd_pot.1 nd_pot.2) pe_int (fun _ _ => rfl)) (pe_cb cs_len rfl T.n_len bt_len (pa_cons (pe_ix ix_seq (pe_var (i := 0) rfl (Or.inl rfl) nd_pot.1 nd_pot.2) pe_int (fun _ _ => rfl)) pa_nil)) (nomark _))))) (pss_cons (ps_asg (pe_ix ix_seq (pe_ix ix_seq (pe_var (i := 0) rfl (Or.inl rfl) nd_pot.1 nd_pot.2) pe_int (fun _ _ => rfl)) (pe_ix ix_seq (pe_var (i := 0) rfl (Or.inl rfl) nd_pot.1 nd_pot.2) pe_int (fun _ _ => rfl)) (fun _ _ => rfl)) (pg_sub (pe_var (i := 0) rfl (Or.inl rfl) nd_pot.1 nd_pot.2) pe_int set_list)) (pss_one (ps_asg (pe_bin (os_add hr tk) (pe_ix ix_seq (pe_var (i := 0) rfl (Or.inl rfl) nd_pot.1 nd_pot.2) pe_int (fun _ _ => rfl)) pe_int) (pg_sub (pe_var (i := 0) rfl (Or.inl rfl) nd_pot.1 nd_pot.2) pe_int set_list)))) pss_nil) (pss_cons (ps_set (i := 2) sc__law_digit.nd rfl (Or.inl rfl) (pe_bin os_mod (pe_ct cs_int rfl T.n_int bt_int (pa_cons (pe_ix ix_seq (pe_var (i := 0) rfl (Or.inl rfl) nd_pot.1 nd_pot.2) pe_int (fun _ _ => rfl)) pa_nil)) (pe_var (i := 1) rfl (Or.inl rfl) nd_many.1 nd_many.2))) (pss_cons (ps_asg (pe_bin os_fdiv (pe_ix ix_seq (pe_var (i := 0) rfl (Or.inl rfl) nd_pot.1 nd_pot.2) pe_int (fun _ _ => rfl)) (pe_var (i := 1) rfl (Or.inl rfl) nd_many.1 nd_many.2)) (pg_sub (pe_var (i := 0) rfl (Or.inl rfl) nd_pot.1 nd_pot.2) pe_int set_list)) (pss_one (ps_ret (pe_var (i := 2) rfl (Or.inl rfl) nd_digit.1 nd_digit.2)))))), ?_⟩)
  rintro ds m K E - ⟨p, many, m0, rfl, h0, hb, ⟨cs, i, r, rfl, hi, hrr, hcs⟩, k⟩
  show Ws _ _ _ [some (.ref p), some (.int many), none] _ _
  dsimp only [cx_G, cx_K]
  have fin : ∀ (cs : List Int) (i r : Int), 0 ≤ i → 0 ≤ r → (∀ c ∈ cs, 0 ≤ c) → K (.int (r.fmod many)) ((p, .lst [.lst (cs.map D.int), .int i, .int (r.fdiv many)]) :: m0) := fun cs i r hi hr hc => by
    rw [Int.fmod_eq_emod_of_nonneg _ (by omega), Int.fdiv_eq_ediv_of_nonneg _ (by omega)]
    exact k _ _ (Int.emod_nonneg _ (by omega)) (Int.emod_lt_of_pos _ h0) ⟨cs, i, _, rfl, hi, Int.ediv_nonneg hr (by omega), hc⟩
  have hne : many ≠ 0 := by omega
  have hdv : CDivX r many := hb.divX hne (by decide)
  walk_at "go_1"
  · obtain ⟨c, hc, hat⟩ := atI_ints hi ‹i < _›
    refine w2_ixL ⟨hat, ?_⟩
    walk_at "go_1"
    · exact hne
    · exact hb.divX hne (by decide)
    · exact fin _ _ _ (by omega) (hcs _ hc) hcs
  all_goals first | exact hne | exact hdv | exact fin _ _ _ hi hrr hcs
theorem cut_pot {ns : List Int} (h : ns.length ≤ 63) : cutD (ns.map D.int) none (some 63) = ns.map D.int := cut63 (by rw [List.length_map]; exact h)
def dabs : D → D
  | .int i => .int (i.natAbs : Int)
  | d => d
theorem ok_pot (T : Txt G C_Ratio C_Span C_Apart C_Crossed C_CarryError) {f : Addr} {fd : FuncData} (F : L2.Fun G.K "_law_start" "_law_start" s__law_start f fd) (b : L2.Binds G.K fd ["script"] []) : Fnx G 1 f 1 (S_pot G.K) [] := by
  refine fnx_of F sc__law_start rfl b .nil rfl (fun cdv A outer s H FF hr tk => ⟨_, (pss_one (ps_ret (pe_lst (pa_cons (pe_lc (own := [("cell", 1)]) (g := gName 1) (tt := tYes) rfl sc__law_start.nd (pi_seq (pe_slice sl_list (pe_var (i := 0) rfl (Or.inl rfl) nd_script.1 nd_script.2) po_none (po_some pe_int))) (blkOk_by (N := N__law_start) (sc := defScope s__law_start) (by decide +kernel)) (fun _ _ _ _ _ => pg_name (i := 1) sc__law_start.nd rfl (Or.inl rfl)) (fun _ _ _ _ _ => pts_nil) (fun _ _ _ _ _ => (pe_cb cs_abs rfl T.n_abs bt_abs (pa_cons (pe_var (i := 1) rfl (Or.inl rfl) nd_cell.1 nd_cell.2) pa_nil)))) (pa_cons pe_int (pa_cons pe_int pa_nil)))))), ?_⟩)
  rintro ds m K E - ⟨d, ns, rfl, sd, hl, k⟩
  show Ws _ _ _ [some d, none] _ _
  dsimp only [cx_G, cx_K]
  refine ws_ret (we_lstM (wa_cons (we_lcm (f := dabs) (we_slS ?_))))
  walk_at "dl_1"
  refine ⟨ns, sd, wo_none (wo_some ?_)⟩
  walk_at "dl_1"
  rw [cut_pot hl]
  refine ⟨_, .lst, by rw [List.length_map]; exact Nat.ble_eq_true_of_le (by omega), ?_, ?_⟩
  · intro x hx q K2 hk
    obtain ⟨i, hi, rfl⟩ := List.mem_map.mp hx
    walk_at "dl_1"
    exact hk
  · walk_at "dl_1"
    intro p hp
    have e : (ns.map D.int).map dabs = (ns.map fun i => (i.natAbs : Int)).map D.int := by
      rw [List.map_map, List.map_map]; rfl
    refine k p _ hp ⟨_, 0, 0, by rw [e], by omega, by omega, fun c hc => ?_⟩
    obtain ⟨i, _, rfl⟩ := List.mem_map.mp hc
    omega

theorem ok_init (T : Txt G C_Ratio C_Span C_Apart C_Crossed C_CarryError) {f : Addr} {fd : FuncData} {dvs : List V} (F : FunW G.K "__init__" "Ratio.__init__" s_Ratio___init__ dvs f fd) {ds : List Value} {dd : List D} (b : L2.Binds G.K fd ["self", "top", "bottom"] ds) (d : L2.Vals (dd.map ofD) ds) (cs : dd.all isC = true) : Fnx G 1 f 3 (S_init C_Ratio) dd := by
  refine fnx_ofD F sc_Ratio___init__ rfl b d cs (fun cdv A outer s H FF hr tk => ⟨_, (pss_cons (ps_if (pt_cm (os_eqF hr tk) (pe_var (i := 2) rfl (Or.inl rfl) nd_bottom.1 nd_bottom.2) pe_int (nomark _)) (pss_one ps_never) pss_nil) (pss_cons (ps_set (i := 3) sc_Ratio___init__.nd rfl (Or.inl rfl) (pe_cf cs_gcd rfl T.mg_gcd (pa_cons (pe_var (i := 1) rfl (Or.inl rfl) nd_top.1 nd_top.2) (pa_cons (pe_var (i := 2) rfl (Or.inl rfl) nd_bottom.1 nd_bottom.2) pa_nil)))) (pss_cons (ps_if (pt_cm os_lt (pe_var (i := 2) rfl (Or.inl rfl) nd_bottom.1 nd_bottom.2) pe_int (nomark _)) (pss_one (ps_set (i := 3) sc_Ratio___init__.nd rfl (Or.inl rfl) (pe_una (us_neg hr tk) (pe_var (i := 3) rfl (Or.inl rfl) nd_shared.1 nd_shared.2)))) pss_nil) (pss_cons (ps_fld (pe_var (i := 0) rfl (Or.inl rfl) nd_self.1 nd_self.2) (pe_bin os_fdiv (pe_var (i := 1) rfl (Or.inl rfl) nd_top.1 nd_top.2) (pe_var (i := 3) rfl (Or.inl rfl) nd_shared.1 nd_shared.2)) rfl) (pss_one (ps_fld (pe_var (i := 0) rfl (Or.inl rfl) nd_self.1 nd_self.2) (pe_bin os_fdiv (pe_var (i := 2) rfl (Or.inl rfl) nd_bottom.1 nd_bottom.2) (pe_var (i := 3) rfl (Or.inl rfl) nd_shared.1 nd_shared.2)) rfl)))))), ?_⟩)
  rintro ds m K E - ⟨x, m0, t, b, rfl, rfl, hb0, hbb, k⟩
  show Ws _ _ _ [some (.ref x), some (.int t), some (.int b), none] _ _
  try dsimp only [cx_G, cx_K]
  have gp := gc_pos (t := t) hb0
  have gb := gc_bd (t := t) hb0 hbb
  have R := T.R_Ratio
  have gn : gc t b ≠ 0 := by omega
  have fin1 : ¬ b < 0 → t.fdiv (gc t b) = rT t b ∧ b.fdiv (gc t b) = rB t b := fun h => by
    unfold rT rB
    rw [if_neg h, if_neg h, fdiv_pos gp, fdiv_pos gp]
    exact ⟨rfl, rfl⟩
  have fin2 : b < 0 → t.fdiv (-gc t b) = rT t b ∧ b.fdiv (-gc t b) = rB t b := fun h => by
    unfold rT rB
    rw [if_pos h, if_pos h, fdiv_neg' gp (gc_dvd1 t b), fdiv_neg' gp (gc_dvd2 t b)]
    exact ⟨rfl, rfl⟩
  have c1 : ∀ z : Int, CDivX z (-((t.natAbs.gcd b.natAbs : Nat) : Int)) := fun z => gb.neg.divX (by omega) (by decide)
  have c2 : ∀ z : Int, CDivX z ((t.natAbs.gcd b.natAbs : Nat) : Int) := fun z => gb.divX gn (by decide)
  have k1 : b < 0 → K .non ((x, .ins C_Ratio ["top", "bottom"] [.int (t.fdiv (-((t.natAbs.gcd b.natAbs : Nat) : Int))), .int (b.fdiv (-((t.natAbs.gcd b.natAbs : Nat) : Int)))]) :: m0) := fun h => by
    have q := k
    rw [← (fin2 h).1, ← (fin2 h).2] at q
    exact q
  have k2 : ¬ b < 0 → K .non ((x, .ins C_Ratio ["top", "bottom"] [.int (t.fdiv ((t.natAbs.gcd b.natAbs : Nat) : Int)), .int (b.fdiv ((t.natAbs.gcd b.natAbs : Nat) : Int))]) :: m0) := fun h => by
    have q := k
    rw [← (fin1 h).1, ← (fin1 h).2] at q
    exact q
  walk_at "go_1"
  all_goals first | exact absurd ‹b = 0› hb0 | exact c1 _ | exact c2 _ | exact k1 ‹_› | exact k2 ‹_›
local macro_rules | `(tactic| walk_at "useWe_2") => `(tactic| first | (with_reducible refine we_mt ?_) | (with_reducible refine we_ratQ ?_) | (with_reducible refine we_ratQ1 ?_) | (with_reducible refine we_spn ?_) | (with_reducible refine we_sta ?_) | fail)
local macro_rules | `(tactic| walk_at "sWe_2") => `(tactic| first
  | ((with_reducible refine we_var (d := ?d) ?hv ?hk); case hv => rfl)
  | (with_reducible first
    | refine we_cint ?_ | refine we_2 ?_ | refine we_fldF ?_ | refine we_cl0 ?_ | refine we_tup ?_ | refine we_1 ?_ | refine we_c2 ?_ | refine we_cbl ?_ | refine we_cnon ?_ | refine we_cty ?_ | refine we_cref ?_
    | refine we_op ?_ | refine we_andV ?_ | refine we_orV ?_ | refine we_notV ?_ | refine we_3 ?_ | refine we_ifx ?_ | refine we_cstr ?_ | refine we_clH ?_)
  | walk_at "useWe_2")
local macro_rules | `(tactic| walk_at "useW2_2") => `(tactic| first
  | (with_reducible refine w2_qeq (by assumption) (by decide) (by assumption) ?_) | (with_reducible refine w2_seq (by assumption) (by decide) (by assumption) ?_)
  | (with_reducible refine w2_seqQ (by assumption) (by decide) (by assumption) (by assumption) (by assumption) ?_) | (with_reducible refine w2_qeqS (by assumption) (by decide) (by assumption) (by assumption) (by assumption) ?_)
  | (with_reducible refine w2_seqL (by assumption) (by decide) (by assumption) (by constructor) ?_) | (with_reducible refine w2_seqR (by assumption) (by decide) (by assumption) (by constructor) ?_)
  | (with_reducible refine w2_addStr ?_ ?_) | (with_reducible refine w2_neSame ?_) | (with_reducible refine w2_eqSame ?_) | (with_reducible refine w2_eqHFI ?_) | (with_reducible refine w2_neHFI ?_)
  | (with_reducible refine w2_andO (by assumption) (by decide) .fixed .fixed ?_)
  | (with_reducible refine w2_addO (by assumption) (by decide) .fixed .fixed ?_) | (with_reducible refine w2_subO (by assumption) (by decide) .fixed .fixed ?_) | (with_reducible refine w2_mulO (by assumption) (by decide) .fixed .fixed ?_) | (with_reducible refine w1_negO (by assumption) (by decide) .fixed ?_) | (with_reducible refine w2_inO (by assumption) (by decide) .fixed ?_) | fail)
local macro_rules | `(tactic| walk_at "sW2_2") => `(tactic| first
  | (with_reducible first
    | refine w2_add ?_ | refine w2_sub ?_ | refine w2_mul ⟨?_, ?_⟩ | refine w2_fdiv ⟨?_, ?_⟩ | refine w2_mod ⟨?_, ?_⟩ | refine w2_pow ⟨?_, ?_⟩ | refine w2_eqI ?_ | refine w2_neI ?_ | refine w2_lt ?_ | refine w2_le ?_ | refine w2_gt ?_ | refine w2_ge ?_ | refine w2_eqFI ?_ | refine w2_neFI ?_)
  | ((with_reducible refine w2_ixT (d := ?d) ⟨?hv, ?hk⟩); case hv => rfl)
  | ((with_reducible refine w2_ixL (d := ?d) ⟨?hv, ?hk⟩); case hv => rfl)
  | ((with_reducible refine w2_ixM (d := ?d) .head ⟨?hv, ?hk⟩); case hv => rfl)
  | (with_reducible first
    | refine w2_eqIH ?_ | refine w2_neIH ?_ | refine w2_mulH ⟨?_, ?_⟩ | refine w2_addH ?_ | refine w2_subH ?_ | refine w2_isN ?_ | refine w2_notN ?_ | refine w2_isB ?_ | refine w2_notB ?_)
  | walk_at "useW2_2")
local macro_rules | `(tactic| walk_at "sWa_2") => `(tactic| with_reducible first | refine wa_nil ?_ | refine wa_cons ?_)
local macro_rules | `(tactic| walk_at "useWs_2") => `(tactic| first | (with_reducible refine ws_rs0 ?_) | (with_reducible refine ws_rs ?_) | fail)
local macro_rules | `(tactic| walk_at "sWs_2") => `(tactic| first
  | (with_reducible first | refine ws_seq ?_ | refine ws_ret ?_ | refine ws_asg ?_ | refine ws_next ?_ | refine ws_drop ?_ | refine ws_par ?_ | refine ws_par3 ?_ | refine ws_fldN ?_ | refine ws_brk ?_ | refine ws_cont ?_)
  | walk_at "useWs_2")
local macro_rules | `(tactic| walk_at "sWt_2") => `(tactic| with_reducible first | refine wt_test ?_ | refine wt_tr ?_ | refine wt_and ?_ | refine wt_or ?_ | refine wt_not ?_)
local macro_rules | `(tactic| walk_at "useWc_2") => `(tactic| fail)
local macro_rules | `(tactic| walk_at "sWc_2") => `(tactic| first
  | (with_reducible first | refine wc_int ?_ | refine wc_abs ?_ | refine wc_min ?_ | refine wc_gcd ?_ | refine wc_isiT .int kit_ii ?_ | refine wc_isiT .int kit_ib ?_ | refine wc_len .lst ?_ | refine wc_len .tup ?_ | refine wc_strI ?_ ?_)
  | walk_at "useWc_2")
local macro_rules | `(tactic| walk_at "sWg_2") => `(tactic| with_reducible first | refine wg_name ?_ | refine wg_subM ?_ | refine wg_tup rfl ?_)
local macro_rules | `(tactic| walk_at "sW1_2") => `(tactic| first | (with_reducible refine w1_neg ?_) | walk_at "useW2_2")
local macro_rules | `(tactic| walk_at "sWgs_2") => `(tactic| with_reducible first | refine wgs_cons ?_ | refine wgs_nil ?_)
local macro_rules | `(tactic| walk_at "useq_2") => `(tactic| first
  | (with_reducible refine fld_low (by assumption) ?_) | (with_reducible refine fld_high (by assumption) ?_)
  | (with_reducible refine mt_of0 (by assumption) (by decide) ?_) | (with_reducible refine RatQ.mk ?_ ?_ ?_)
  | (with_reducible refine use_qcmp ?_ ?_ ?_) | (with_reducible refine use_qsign ?_) | (with_reducible refine use_qdown ?_ ?_) | (with_reducible refine use_qup ?_ ?_)
  | (with_reducible refine use_qleast ?_ ?_ ?_) | (with_reducible refine use_qgreat ?_ ?_ ?_)
  | (with_reducible refine use_qadd ?_ ?_ ?_) | (with_reducible refine use_qsub ?_ ?_ ?_) | (with_reducible refine use_qmul ?_ ?_ ?_) | (with_reducible refine use_qdiv ?_ ?_ ?_ ?_) | (with_reducible refine use_qneg ?_ ?_)
  | (with_reducible refine SpnA.mk ?_ ?_ ?_ ?_)
  | (with_reducible refine use_s2 ?_ ?_) | (with_reducible refine use_sneg ?_ ?_ ?_ ?_) | (with_reducible refine use_scont ?_ ?_ ?_ ?_) | (with_reducible refine use_sdiv ?_ ?_ ?_)
  | (with_reducible refine setN_low (by assumption) ?_) | (with_reducible refine setN_high (by assumption) ?_)
  | fail)
local macro_rules | `(tactic| walk_at "useq3_2") => `(tactic| first
  | (with_reducible refine use_sand ?_ ?_ ?_ ?_ ?_ ?_) | (with_reducible refine use_satm ?_ ?_ ?_ ?_ ?_) | (with_reducible refine use_slen ?_ ?_ ?_) | (with_reducible refine use_spoint ?_ ?_) | (with_reducible refine use_qtext ?_ ?_) | (with_reducible refine use_stext ?_ ?_ ?_) | (with_reducible refine SpnX.mk ?_ ?_ ?_ ?_) | walk_at "useq_2")
local macro_rules | `(tactic| walk_at "use_2") => `(tactic| first | walk_at "useq3_2" | fail)
local macro_rules | `(tactic| walk_at "sX_2") => `(tactic| first
  | (with_reducible refine ⟨_, rfl, ?_⟩)
  | (with_reducible refine fld_top (by assumption) ?_) | (with_reducible refine fld_bottom (by assumption) ?_)
  | (with_reducible refine ⟨_, .bl, ?_⟩)
  | ((with_reducible refine ⟨?h, ?_⟩); case h => rfl)
  | (with_reducible refine ⟨_, _, rfl, ?_⟩)
  | (with_reducible refine ⟨_, _, _, rfl, ?_⟩)
  | walk_at "use_2"
  | (with_reducible refine setN_top (by assumption) ?_) | (with_reducible refine setN_bottom (by assumption) ?_)
  | ((with_reducible refine ⟨_, _, _, ?j, _, rfl, rfl, .head, ?h, .head, ?_⟩); case h => rfl)
  | fail)
local macro_rules | `(tactic| walk_at "st_2") => `(tactic| first
  | ((with_reducible show We _ _ _ _ _ _); walk_at "sWe_2")
  | ((with_reducible show W2 _ _ _ _ _ _ _ _); walk_at "sW2_2")
  | ((with_reducible show Wa _ _ _ _ _ _); walk_at "sWa_2")
  | ((with_reducible show Ws _ _ _ _ _ _); walk_at "sWs_2")
  | ((with_reducible show Wt _ _ _ _ _ _); walk_at "sWt_2")
  | ((with_reducible show Wc _ _ _ _ _ _ _); walk_at "sWc_2")
  | ((with_reducible show Wg _ _ _ _ _ _ _); walk_at "sWg_2")
  | ((with_reducible show W1 _ _ _ _ _ _ _); walk_at "sW1_2")
  | ((with_reducible show Wgs _ _ _ _ _ _ _); walk_at "sWgs_2")
  | walk_at "sX_2" | fail)
local macro_rules | `(tactic| walk_at "wif_2") => `(tactic| (with_reducible refine ws_if ?_))
local macro_rules | `(tactic| walk_at "br_2") => `(tactic| ((with_reducible refine ⟨fun hb => ?_, fun hb => ?_⟩) <;> (try simp only [decide_eq_true_eq, decide_eq_false_iff_not, Bool.not_eq_true', Bool.not_eq_false', Bool.and_eq_true, Bool.or_eq_true, reduceCtorEq, List.length_map, Bool.not_true, Bool.not_false, DL.isNon, not_true_eq_false, not_false_eq_true, Classical.not_not, List.all_cons, List.all_nil, id_eq, Bool.and_self, Bool.true_and, decide_true, decide_false] at hb)))
local macro_rules | `(tactic| walk_at "go_2") => `(tactic| repeat' (first | walk_at "st_2" | walk_at "wif_2" | walk_at "br_2" | fail))
theorem ok_qsub (T : Txt G C_Ratio C_Span C_Apart C_Crossed C_CarryError) (k_Ratio : Mak G 1 "Ratio" C_Ratio 3 (S_init C_Ratio) []) {f : Addr} {fd : FuncData} (F : L2.Fun G.K "__sub__" "Ratio.__sub__" s_Ratio___sub__ f fd) (b : L2.Binds G.K fd ["self", "other"] []) : Fnx G 3 f 2 (S_qsub C_Ratio) [] := by
  refine fnx_of F sc_Ratio___sub__ rfl b .nil rfl (fun cdv A outer s H FF hr tk => ⟨_, (pss_one (ps_ret (pe_mak k_Ratio hr (by decide) tk rfl (pa_cons (pe_bin (os_sub hr tk) (pe_bin (os_mul hr tk) (pe_fld (pe_var (i := 0) rfl (Or.inl rfl) nd_self.1 nd_self.2) rfl) (pe_fld (pe_var (i := 1) rfl (Or.inl rfl) nd_other.1 nd_other.2) rfl)) (pe_bin (os_mul hr tk) (pe_fld (pe_var (i := 1) rfl (Or.inl rfl) nd_other.1 nd_other.2) rfl) (pe_fld (pe_var (i := 0) rfl (Or.inl rfl) nd_self.1 nd_self.2) rfl))) (pa_cons (pe_bin (os_mul hr tk) (pe_fld (pe_var (i := 0) rfl (Or.inl rfl) nd_self.1 nd_self.2) rfl) (pe_fld (pe_var (i := 1) rfl (Or.inl rfl) nd_other.1 nd_other.2) rfl)) pa_nil))))), ?_⟩)
  rintro ds m K E - ⟨x, y, rfl, hx, hy, k⟩
  show Ws _ _ _ [some (rq C_Ratio x), some (rq C_Ratio y)] _ _
  try dsimp only [cx_G, cx_K]
  have R := T.R_Ratio
  walk_at "go_2"
  all_goals first | exact hx.1.mulX hy.2 (by decide) | exact hy.1.mulX hx.2 (by decide) | exact hx.2.mulX hy.2 (by decide) | exact Int.mul_ne_zero (den_ne x) (den_ne y) | exact (hx.2.mul hy.2).mono (by decide) | (rw [q_sub]; exact k)
local macro_rules | `(tactic| walk_at "useWe_3") => `(tactic| first | (with_reducible refine we_mt ?_) | (with_reducible refine we_ratQ ?_) | (with_reducible refine we_ratQ1 ?_) | (with_reducible refine we_spn ?_) | (with_reducible refine we_sta ?_) | fail)
local macro_rules | `(tactic| walk_at "sWe_3") => `(tactic| first
  | ((with_reducible refine we_var (d := ?d) ?hv ?hk); case hv => rfl)
  | (with_reducible first
    | refine we_cint ?_ | refine we_2 ?_ | refine we_fldF ?_ | refine we_cl0 ?_ | refine we_tup ?_ | refine we_1 ?_ | refine we_c2 ?_ | refine we_cbl ?_ | refine we_cnon ?_ | refine we_cty ?_ | refine we_cref ?_
    | refine we_op ?_ | refine we_andV ?_ | refine we_orV ?_ | refine we_notV ?_ | refine we_3 ?_ | refine we_ifx ?_ | refine we_cstr ?_ | refine we_clH ?_)
  | walk_at "useWe_3")
local macro_rules | `(tactic| walk_at "useW2_3") => `(tactic| first
  | (with_reducible refine w2_qeq (by assumption) (by decide) (by assumption) ?_) | (with_reducible refine w2_seq (by assumption) (by decide) (by assumption) ?_)
  | (with_reducible refine w2_seqQ (by assumption) (by decide) (by assumption) (by assumption) (by assumption) ?_) | (with_reducible refine w2_qeqS (by assumption) (by decide) (by assumption) (by assumption) (by assumption) ?_)
  | (with_reducible refine w2_seqL (by assumption) (by decide) (by assumption) (by constructor) ?_) | (with_reducible refine w2_seqR (by assumption) (by decide) (by assumption) (by constructor) ?_)
  | (with_reducible refine w2_addStr ?_ ?_) | (with_reducible refine w2_neSame ?_) | (with_reducible refine w2_eqSame ?_) | (with_reducible refine w2_eqHFI ?_) | (with_reducible refine w2_neHFI ?_)
  | (with_reducible refine w2_andO (by assumption) (by decide) .fixed .fixed ?_)
  | (with_reducible refine w2_addO (by assumption) (by decide) .fixed .fixed ?_) | (with_reducible refine w2_subO (by assumption) (by decide) .fixed .fixed ?_) | (with_reducible refine w2_mulO (by assumption) (by decide) .fixed .fixed ?_) | (with_reducible refine w1_negO (by assumption) (by decide) .fixed ?_) | (with_reducible refine w2_inO (by assumption) (by decide) .fixed ?_) | fail)
local macro_rules | `(tactic| walk_at "sW2_3") => `(tactic| first
  | (with_reducible first
    | refine w2_add ?_ | refine w2_sub ?_ | refine w2_mul ⟨?_, ?_⟩ | refine w2_fdiv ⟨?_, ?_⟩ | refine w2_mod ⟨?_, ?_⟩ | refine w2_pow ⟨?_, ?_⟩ | refine w2_eqI ?_ | refine w2_neI ?_ | refine w2_lt ?_ | refine w2_le ?_ | refine w2_gt ?_ | refine w2_ge ?_ | refine w2_eqFI ?_ | refine w2_neFI ?_)
  | ((with_reducible refine w2_ixT (d := ?d) ⟨?hv, ?hk⟩); case hv => rfl)
  | ((with_reducible refine w2_ixL (d := ?d) ⟨?hv, ?hk⟩); case hv => rfl)
  | ((with_reducible refine w2_ixM (d := ?d) .head ⟨?hv, ?hk⟩); case hv => rfl)
  | (with_reducible first
    | refine w2_eqIH ?_ | refine w2_neIH ?_ | refine w2_mulH ⟨?_, ?_⟩ | refine w2_addH ?_ | refine w2_subH ?_ | refine w2_isN ?_ | refine w2_notN ?_ | refine w2_isB ?_ | refine w2_notB ?_)
  | walk_at "useW2_3")
local macro_rules | `(tactic| walk_at "sWa_3") => `(tactic| with_reducible first | refine wa_nil ?_ | refine wa_cons ?_)
local macro_rules | `(tactic| walk_at "useWs_3") => `(tactic| first | (with_reducible refine ws_rs0 ?_) | (with_reducible refine ws_rs ?_) | fail)
local macro_rules | `(tactic| walk_at "sWs_3") => `(tactic| first
  | (with_reducible first | refine ws_seq ?_ | refine ws_ret ?_ | refine ws_asg ?_ | refine ws_next ?_ | refine ws_drop ?_ | refine ws_par ?_ | refine ws_par3 ?_ | refine ws_fldN ?_ | refine ws_brk ?_ | refine ws_cont ?_)
  | walk_at "useWs_3")
local macro_rules | `(tactic| walk_at "sWt_3") => `(tactic| with_reducible first | refine wt_test ?_ | refine wt_tr ?_ | refine wt_and ?_ | refine wt_or ?_ | refine wt_not ?_)
local macro_rules | `(tactic| walk_at "useWc_3") => `(tactic| fail)
local macro_rules | `(tactic| walk_at "sWc_3") => `(tactic| first
  | (with_reducible first | refine wc_int ?_ | refine wc_abs ?_ | refine wc_min ?_ | refine wc_gcd ?_ | refine wc_isiT .int kit_ii ?_ | refine wc_isiT .int kit_ib ?_ | refine wc_len .lst ?_ | refine wc_len .tup ?_ | refine wc_strI ?_ ?_)
  | walk_at "useWc_3")
local macro_rules | `(tactic| walk_at "sWg_3") => `(tactic| with_reducible first | refine wg_name ?_ | refine wg_subM ?_ | refine wg_tup rfl ?_)
local macro_rules | `(tactic| walk_at "sW1_3") => `(tactic| first | (with_reducible refine w1_neg ?_) | walk_at "useW2_3")
local macro_rules | `(tactic| walk_at "sWgs_3") => `(tactic| with_reducible first | refine wgs_cons ?_ | refine wgs_nil ?_)
local macro_rules | `(tactic| walk_at "useq_3") => `(tactic| first
  | (with_reducible refine fld_low (by assumption) ?_) | (with_reducible refine fld_high (by assumption) ?_)
  | (with_reducible refine mt_of0 (by assumption) (by decide) ?_) | (with_reducible refine RatQ.mk ?_ ?_ ?_)
  | (with_reducible refine use_qcmp ?_ ?_ ?_) | (with_reducible refine use_qsign ?_) | (with_reducible refine use_qdown ?_ ?_) | (with_reducible refine use_qup ?_ ?_)
  | (with_reducible refine use_qleast ?_ ?_ ?_) | (with_reducible refine use_qgreat ?_ ?_ ?_)
  | (with_reducible refine use_qadd ?_ ?_ ?_) | (with_reducible refine use_qsub ?_ ?_ ?_) | (with_reducible refine use_qmul ?_ ?_ ?_) | (with_reducible refine use_qdiv ?_ ?_ ?_ ?_) | (with_reducible refine use_qneg ?_ ?_)
  | (with_reducible refine SpnA.mk ?_ ?_ ?_ ?_)
  | (with_reducible refine use_s2 ?_ ?_) | (with_reducible refine use_sneg ?_ ?_ ?_ ?_) | (with_reducible refine use_scont ?_ ?_ ?_ ?_) | (with_reducible refine use_sdiv ?_ ?_ ?_)
  | (with_reducible refine setN_low (by assumption) ?_) | (with_reducible refine setN_high (by assumption) ?_)
  | fail)
local macro_rules | `(tactic| walk_at "useq3_3") => `(tactic| first
  | (with_reducible refine use_sand ?_ ?_ ?_ ?_ ?_ ?_) | (with_reducible refine use_satm ?_ ?_ ?_ ?_ ?_) | (with_reducible refine use_slen ?_ ?_ ?_) | (with_reducible refine use_spoint ?_ ?_) | (with_reducible refine use_qtext ?_ ?_) | (with_reducible refine use_stext ?_ ?_ ?_) | (with_reducible refine SpnX.mk ?_ ?_ ?_ ?_) | walk_at "useq_3")
local macro_rules | `(tactic| walk_at "use_3") => `(tactic| first | walk_at "useq3_3" | fail)
local macro_rules | `(tactic| walk_at "sX_3") => `(tactic| first
  | (with_reducible refine ⟨_, rfl, ?_⟩)
  | (with_reducible refine fld_top (by assumption) ?_) | (with_reducible refine fld_bottom (by assumption) ?_)
  | (with_reducible refine ⟨_, .bl, ?_⟩)
  | ((with_reducible refine ⟨?h, ?_⟩); case h => rfl)
  | (with_reducible refine ⟨_, _, rfl, ?_⟩)
  | (with_reducible refine ⟨_, _, _, rfl, ?_⟩)
  | walk_at "use_3"
  | (with_reducible refine setN_top (by assumption) ?_) | (with_reducible refine setN_bottom (by assumption) ?_)
  | ((with_reducible refine ⟨_, _, _, ?j, _, rfl, rfl, .head, ?h, .head, ?_⟩); case h => rfl)
  | fail)
local macro_rules | `(tactic| walk_at "st_3") => `(tactic| first
  | ((with_reducible show We _ _ _ _ _ _); walk_at "sWe_3")
  | ((with_reducible show W2 _ _ _ _ _ _ _ _); walk_at "sW2_3")
  | ((with_reducible show Wa _ _ _ _ _ _); walk_at "sWa_3")
  | ((with_reducible show Ws _ _ _ _ _ _); walk_at "sWs_3")
  | ((with_reducible show Wt _ _ _ _ _ _); walk_at "sWt_3")
  | ((with_reducible show Wc _ _ _ _ _ _ _); walk_at "sWc_3")
  | ((with_reducible show Wg _ _ _ _ _ _ _); walk_at "sWg_3")
  | ((with_reducible show W1 _ _ _ _ _ _ _); walk_at "sW1_3")
  | ((with_reducible show Wgs _ _ _ _ _ _ _); walk_at "sWgs_3")
  | walk_at "sX_3" | fail)
local macro_rules | `(tactic| walk_at "wif_3") => `(tactic| (with_reducible refine ws_if ?_))
local macro_rules | `(tactic| walk_at "br_3") => `(tactic| ((with_reducible refine ⟨fun hb => ?_, fun hb => ?_⟩) <;> (try simp only [decide_eq_true_eq, decide_eq_false_iff_not, Bool.not_eq_true', Bool.not_eq_false', Bool.and_eq_true, Bool.or_eq_true, reduceCtorEq, List.length_map, Bool.not_true, Bool.not_false, DL.isNon, not_true_eq_false, not_false_eq_true, Classical.not_not, List.all_cons, List.all_nil, id_eq, Bool.and_self, Bool.true_and, decide_true, decide_false] at hb)))
local macro_rules | `(tactic| walk_at "go_3") => `(tactic| repeat' (first | walk_at "st_3" | walk_at "wif_3" | walk_at "br_3" | fail))
theorem ok_qeq (T : Txt G C_Ratio C_Span C_Apart C_Crossed C_CarryError) {f : Addr} {fd : FuncData} (F : L2.Fun G.K "__eq__" "Ratio.__eq__" s_Ratio___eq__ f fd) (b : L2.Binds G.K fd ["self", "other"] []) : Fnx G 1 f 2 (S_qeq G C_Ratio) [] := by
  refine fnx_of F sc_Ratio___eq__ rfl b .nil rfl (fun cdv A outer s H FF hr tk => ⟨_, (pss_cons (ps_if (pt_not (pt_tr (pe_cb cs_isi rfl T.n_isinstance bt_isinstance (pa_cons (pe_var (i := 1) rfl (Or.inl rfl) nd_other.1 nd_other.2) (pa_cons (pe_glob (v := .ref C_Ratio) rfl T.mg_Ratio rfl) pa_nil))))) (pss_one (ps_ret pe_bl)) pss_nil) (pss_one (ps_ret (pe_and (pe_cm (os_eqF hr tk) (pe_fld (pe_var (i := 0) rfl (Or.inl rfl) nd_self.1 nd_self.2) rfl) (pe_fld (pe_var (i := 1) rfl (Or.inl rfl) nd_other.1 nd_other.2) rfl) (nomark _)) (pe_one (pe_cm (os_eqF hr tk) (pe_fld (pe_var (i := 0) rfl (Or.inl rfl) nd_self.1 nd_self.2) rfl) (pe_fld (pe_var (i := 1) rfl (Or.inl rfl) nd_other.1 nd_other.2) rfl) (nomark _))))))), ?_⟩)
  rintro ds m K E - ⟨x, d', rfl, k⟩
  show Ws _ _ _ [some (rq C_Ratio x), some d'] _ _
  try dsimp only [cx_G, cx_K]
  have R := T.R_Ratio
  have RI := R.ins
  have iR := T.is_Ratio_Ratio
  rcases k with ⟨y, rfl, k⟩ | ⟨t, ty, kt, k⟩
  · have e : decide (x = y) = (decide (x.num = y.num) && decide ((x.den : Int) = y.den)) := by
      rw [← Bool.decide_and]
      simp only [q_eq]
    rw [e] at k
    walk_at "go_3"
    refine wc_isiC (.ins RI) iR ?_
    walk_at "go_3"
    · rw [decide_eq_true ‹_›, Bool.true_and] at k
      exact k
    · rw [decide_eq_false ‹_›, Bool.false_and] at k
      exact k
  · walk_at "go_3"
    refine wc_isiC ty kt ?_
    walk_at "go_3"
    exact k
theorem ok_qtext (T : Txt G C_Ratio C_Span C_Apart C_Crossed C_CarryError) {f : Addr} {fd : FuncData} (F : L2.Fun G.K "text" "Ratio.text" s_Ratio_text f fd) (b : L2.Binds G.K fd ["self"] []) : Fnx G 1 f 1 (S_qtext C_Ratio) [] := by
  refine fnx_of F sc_Ratio_text rfl b .nil rfl (fun cdv A outer s H FF hr tk => ⟨_, (pss_cons (ps_if (pt_cm (os_eqF hr tk) (pe_fld (pe_var (i := 0) rfl (Or.inl rfl) nd_self.1 nd_self.2) rfl) pe_int (nomark _)) (pss_one (ps_ret (pe_ct cs_strI rfl T.n_str bt_str (pa_cons (pe_fld (pe_var (i := 0) rfl (Or.inl rfl) nd_self.1 nd_self.2) rfl) pa_nil)))) pss_nil) (pss_one (ps_ret (pe_bin (os_add hr tk) (pe_bin (os_add hr tk) (pe_ct cs_strI rfl T.n_str bt_str (pa_cons (pe_fld (pe_var (i := 0) rfl (Or.inl rfl) nd_self.1 nd_self.2) rfl) pa_nil)) pe_str) (pe_ct cs_strI rfl T.n_str bt_str (pa_cons (pe_fld (pe_var (i := 0) rfl (Or.inl rfl) nd_self.1 nd_self.2) rfl) pa_nil)))))), ?_⟩)
  rintro ds m K E - ⟨x, rfl, hx, k⟩
  show Ws _ _ _ [some (rq C_Ratio x)] _ _
  try dsimp only [cx_G, cx_K]
  have R := T.R_Ratio
  have l1 : x.num.natAbs.log2 < 1920 := by have := hx.t.ok; omega
  have l2 : (x.den : Int).natAbs.log2 < 1920 := by have := hx.b.ok; omega
  unfold qtext ptxt itxt at k
  walk_at "go_3"
  all_goals first
    | exact l1
    | exact l2
    | exact qt_ok1 l1
    | exact qt_ok2 l1 l2
    | (rw [if_pos ‹_›] at k; exact k)
    | (rw [if_neg ‹_›] at k; exact k)
theorem ok_qcmp (T : Txt G C_Ratio C_Span C_Apart C_Crossed C_CarryError) {f : Addr} {fd : FuncData} (F : L2.Fun G.K "compare" "Ratio.compare" s_Ratio_compare f fd) (b : L2.Binds G.K fd ["self", "other"] []) : Fnx G 1 f 2 (S_qcmp C_Ratio) [] := by
  refine fnx_of F sc_Ratio_compare rfl b .nil rfl (fun cdv A outer s H FF hr tk => ⟨_, (pss_cons (ps_set (i := 2) sc_Ratio_compare.nd rfl (Or.inl rfl) (pe_bin (os_mul hr tk) (pe_fld (pe_var (i := 0) rfl (Or.inl rfl) nd_self.1 nd_self.2) rfl) (pe_fld (pe_var (i := 1) rfl (Or.inl rfl) nd_other.1 nd_other.2) rfl))) (pss_cons (ps_set (i := 3) sc_Ratio_compare.nd rfl (Or.inl rfl) (pe_bin (os_mul hr tk) (pe_fld (pe_var (i := 1) rfl (Or.inl rfl) nd_other.1 nd_other.2) rfl) (pe_fld (pe_var (i := 0) rfl (Or.inl rfl) nd_self.1 nd_self.2) rfl))) (pss_cons (ps_if (pt_cm os_lt (pe_var (i := 2) rfl (Or.inl rfl) nd_left.1 nd_left.2) (pe_var (i := 3) rfl (Or.inl rfl) nd_right.1 nd_right.2) (nomark _)) (pss_one (ps_ret (pe_una (us_neg hr tk) pe_int))) pss_nil) (pss_cons (ps_if (pt_cm os_gt (pe_var (i := 2) rfl (Or.inl rfl) nd_left.1 nd_left.2) (pe_var (i := 3) rfl (Or.inl rfl) nd_right.1 nd_right.2) (nomark _)) (pss_one (ps_ret pe_int)) pss_nil) (pss_one (ps_ret pe_int)))))), ?_⟩)
  rintro ds m K E - ⟨x, y, rfl, hx, hy, k⟩
  show Ws _ _ _ [some (rq C_Ratio x), some (rq C_Ratio y), none, none] _ _
  try dsimp only [cx_G, cx_K]
  have R := T.R_Ratio
  have e : cq x y = if x.num * y.den < y.num * x.den then -1 else if y.num * x.den < x.num * y.den then 1 else 0 := by
    unfold cq
    simp only [lt_q]
  rw [e] at k
  walk_at "go_3"
  · exact hx.1.mulX hy.2 (by decide)
  · exact hy.1.mulX hx.2 (by decide)
  · rw [if_pos ‹_›] at k
    exact k
  · rw [if_neg ‹_›, if_pos ‹_›] at k
    exact k
  · rw [if_neg ‹_›, if_neg ‹_›] at k
    exact k
local macro_rules | `(tactic| walk_at "useWe_4") => `(tactic| first | (with_reducible refine we_mt ?_) | (with_reducible refine we_ratQ ?_) | (with_reducible refine we_ratQ1 ?_) | (with_reducible refine we_spn ?_) | (with_reducible refine we_sta ?_) | fail)
local macro_rules | `(tactic| walk_at "sWe_4") => `(tactic| first
  | ((with_reducible refine we_var (d := ?d) ?hv ?hk); case hv => rfl)
  | (with_reducible first
    | refine we_cint ?_ | refine we_2 ?_ | refine we_fldF ?_ | refine we_cl0 ?_ | refine we_tup ?_ | refine we_1 ?_ | refine we_c2 ?_ | refine we_cbl ?_ | refine we_cnon ?_ | refine we_cty ?_ | refine we_cref ?_
    | refine we_op ?_ | refine we_andV ?_ | refine we_orV ?_ | refine we_notV ?_ | refine we_3 ?_ | refine we_ifx ?_ | refine we_cstr ?_ | refine we_clH ?_)
  | walk_at "useWe_4")
local macro_rules | `(tactic| walk_at "useW2_4") => `(tactic| first
  | (with_reducible refine w2_qeq (by assumption) (by decide) (by assumption) ?_) | (with_reducible refine w2_seq (by assumption) (by decide) (by assumption) ?_)
  | (with_reducible refine w2_seqQ (by assumption) (by decide) (by assumption) (by assumption) (by assumption) ?_) | (with_reducible refine w2_qeqS (by assumption) (by decide) (by assumption) (by assumption) (by assumption) ?_)
  | (with_reducible refine w2_seqL (by assumption) (by decide) (by assumption) (by constructor) ?_) | (with_reducible refine w2_seqR (by assumption) (by decide) (by assumption) (by constructor) ?_)
  | (with_reducible refine w2_addStr ?_ ?_) | (with_reducible refine w2_neSame ?_) | (with_reducible refine w2_eqSame ?_) | (with_reducible refine w2_eqHFI ?_) | (with_reducible refine w2_neHFI ?_)
  | (with_reducible refine w2_andO (by assumption) (by decide) .fixed .fixed ?_)
  | (with_reducible refine w2_addO (by assumption) (by decide) .fixed .fixed ?_) | (with_reducible refine w2_subO (by assumption) (by decide) .fixed .fixed ?_) | (with_reducible refine w2_mulO (by assumption) (by decide) .fixed .fixed ?_) | (with_reducible refine w1_negO (by assumption) (by decide) .fixed ?_) | (with_reducible refine w2_inO (by assumption) (by decide) .fixed ?_) | fail)
local macro_rules | `(tactic| walk_at "sW2_4") => `(tactic| first
  | (with_reducible first
    | refine w2_add ?_ | refine w2_sub ?_ | refine w2_mul ⟨?_, ?_⟩ | refine w2_fdiv ⟨?_, ?_⟩ | refine w2_mod ⟨?_, ?_⟩ | refine w2_pow ⟨?_, ?_⟩ | refine w2_eqI ?_ | refine w2_neI ?_ | refine w2_lt ?_ | refine w2_le ?_ | refine w2_gt ?_ | refine w2_ge ?_ | refine w2_eqFI ?_ | refine w2_neFI ?_)
  | ((with_reducible refine w2_ixT (d := ?d) ⟨?hv, ?hk⟩); case hv => rfl)
  | ((with_reducible refine w2_ixL (d := ?d) ⟨?hv, ?hk⟩); case hv => rfl)
  | ((with_reducible refine w2_ixM (d := ?d) .head ⟨?hv, ?hk⟩); case hv => rfl)
  | (with_reducible first
    | refine w2_eqIH ?_ | refine w2_neIH ?_ | refine w2_mulH ⟨?_, ?_⟩ | refine w2_addH ?_ | refine w2_subH ?_ | refine w2_isN ?_ | refine w2_notN ?_ | refine w2_isB ?_ | refine w2_notB ?_)
  | walk_at "useW2_4")
local macro_rules | `(tactic| walk_at "sWa_4") => `(tactic| with_reducible first | refine wa_nil ?_ | refine wa_cons ?_)
local macro_rules | `(tactic| walk_at "useWs_4") => `(tactic| first | (with_reducible refine ws_rs0 ?_) | (with_reducible refine ws_rs ?_) | fail)
local macro_rules | `(tactic| walk_at "sWs_4") => `(tactic| first
  | (with_reducible first | refine ws_seq ?_ | refine ws_ret ?_ | refine ws_asg ?_ | refine ws_next ?_ | refine ws_drop ?_ | refine ws_par ?_ | refine ws_par3 ?_ | refine ws_fldN ?_ | refine ws_brk ?_ | refine ws_cont ?_)
  | walk_at "useWs_4")
local macro_rules | `(tactic| walk_at "sWt_4") => `(tactic| with_reducible first | refine wt_test ?_ | refine wt_tr ?_ | refine wt_and ?_ | refine wt_or ?_ | refine wt_not ?_)
local macro_rules | `(tactic| walk_at "useWc_4") => `(tactic| fail)
local macro_rules | `(tactic| walk_at "sWc_4") => `(tactic| first
  | (with_reducible first | refine wc_int ?_ | refine wc_abs ?_ | refine wc_min ?_ | refine wc_gcd ?_ | refine wc_isiT .int kit_ii ?_ | refine wc_isiT .int kit_ib ?_ | refine wc_len .lst ?_ | refine wc_len .tup ?_ | refine wc_strI ?_ ?_)
  | walk_at "useWc_4")
local macro_rules | `(tactic| walk_at "sWg_4") => `(tactic| with_reducible first | refine wg_name ?_ | refine wg_subM ?_ | refine wg_tup rfl ?_)
local macro_rules | `(tactic| walk_at "sW1_4") => `(tactic| first | (with_reducible refine w1_neg ?_) | walk_at "useW2_4")
local macro_rules | `(tactic| walk_at "sWgs_4") => `(tactic| with_reducible first | refine wgs_cons ?_ | refine wgs_nil ?_)
local macro_rules | `(tactic| walk_at "useq_4") => `(tactic| first
  | (with_reducible refine fld_low (by assumption) ?_) | (with_reducible refine fld_high (by assumption) ?_)
  | (with_reducible refine mt_of0 (by assumption) (by decide) ?_) | (with_reducible refine RatQ.mk ?_ ?_ ?_)
  | (with_reducible refine use_qcmp ?_ ?_ ?_) | (with_reducible refine use_qsign ?_) | (with_reducible refine use_qdown ?_ ?_) | (with_reducible refine use_qup ?_ ?_)
  | (with_reducible refine use_qleast ?_ ?_ ?_) | (with_reducible refine use_qgreat ?_ ?_ ?_)
  | (with_reducible refine use_qadd ?_ ?_ ?_) | (with_reducible refine use_qsub ?_ ?_ ?_) | (with_reducible refine use_qmul ?_ ?_ ?_) | (with_reducible refine use_qdiv ?_ ?_ ?_ ?_) | (with_reducible refine use_qneg ?_ ?_)
  | (with_reducible refine SpnA.mk ?_ ?_ ?_ ?_)
  | (with_reducible refine use_s2 ?_ ?_) | (with_reducible refine use_sneg ?_ ?_ ?_ ?_) | (with_reducible refine use_scont ?_ ?_ ?_ ?_) | (with_reducible refine use_sdiv ?_ ?_ ?_)
  | (with_reducible refine setN_low (by assumption) ?_) | (with_reducible refine setN_high (by assumption) ?_)
  | fail)
local macro_rules | `(tactic| walk_at "useq3_4") => `(tactic| first
  | (with_reducible refine use_sand ?_ ?_ ?_ ?_ ?_ ?_) | (with_reducible refine use_satm ?_ ?_ ?_ ?_ ?_) | (with_reducible refine use_slen ?_ ?_ ?_) | (with_reducible refine use_spoint ?_ ?_) | (with_reducible refine use_qtext ?_ ?_) | (with_reducible refine use_stext ?_ ?_ ?_) | (with_reducible refine SpnX.mk ?_ ?_ ?_ ?_) | walk_at "useq_4")
local macro_rules | `(tactic| walk_at "use_4") => `(tactic| first | walk_at "useq3_4" | fail)
local macro_rules | `(tactic| walk_at "sX_4") => `(tactic| first
  | (with_reducible refine ⟨_, rfl, ?_⟩)
  | (with_reducible refine fld_top (by assumption) ?_) | (with_reducible refine fld_bottom (by assumption) ?_)
  | (with_reducible refine ⟨_, .bl, ?_⟩)
  | ((with_reducible refine ⟨?h, ?_⟩); case h => rfl)
  | (with_reducible refine ⟨_, _, rfl, ?_⟩)
  | (with_reducible refine ⟨_, _, _, rfl, ?_⟩)
  | walk_at "use_4"
  | (with_reducible refine setN_top (by assumption) ?_) | (with_reducible refine setN_bottom (by assumption) ?_)
  | ((with_reducible refine ⟨_, _, _, ?j, _, rfl, rfl, .head, ?h, .head, ?_⟩); case h => rfl)
  | fail)
local macro_rules | `(tactic| walk_at "st_4") => `(tactic| first
  | ((with_reducible show We _ _ _ _ _ _); walk_at "sWe_4")
  | ((with_reducible show W2 _ _ _ _ _ _ _ _); walk_at "sW2_4")
  | ((with_reducible show Wa _ _ _ _ _ _); walk_at "sWa_4")
  | ((with_reducible show Ws _ _ _ _ _ _); walk_at "sWs_4")
  | ((with_reducible show Wt _ _ _ _ _ _); walk_at "sWt_4")
  | ((with_reducible show Wc _ _ _ _ _ _ _); walk_at "sWc_4")
  | ((with_reducible show Wg _ _ _ _ _ _ _); walk_at "sWg_4")
  | ((with_reducible show W1 _ _ _ _ _ _ _); walk_at "sW1_4")
  | ((with_reducible show Wgs _ _ _ _ _ _ _); walk_at "sWgs_4")
  | walk_at "sX_4" | fail)
local macro_rules | `(tactic| walk_at "wif_4") => `(tactic| (with_reducible refine ws_if ?_))
local macro_rules | `(tactic| walk_at "br_4") => `(tactic| ((with_reducible refine ⟨fun hb => ?_, fun hb => ?_⟩) <;> (try simp only [decide_eq_true_eq, decide_eq_false_iff_not, Bool.not_eq_true', Bool.not_eq_false', Bool.and_eq_true, Bool.or_eq_true, reduceCtorEq, List.length_map, Bool.not_true, Bool.not_false, DL.isNon, not_true_eq_false, not_false_eq_true, Classical.not_not, List.all_cons, List.all_nil, id_eq, Bool.and_self, Bool.true_and, decide_true, decide_false] at hb)))
local macro_rules | `(tactic| walk_at "go_4") => `(tactic| repeat' (first | walk_at "st_4" | walk_at "wif_4" | walk_at "br_4" | fail))
theorem ok_lesser (T : Txt G C_Ratio C_Span C_Apart C_Crossed C_CarryError) (m_Ratio_compare : Met G 1 C_Ratio ["top", "bottom"] "compare" 2 (S_qcmp C_Ratio) []) {f : Addr} {fd : FuncData} (F : L2.Fun G.K "lesser" "lesser" s_lesser f fd) (b : L2.Binds G.K fd ["first", "second"] []) : Fnx G 2 f 2 (S_qleast C_Ratio) [] := by
  refine fnx_of F sc_lesser rfl b .nil rfl (fun cdv A outer s H FF hr tk => ⟨_, (pss_cons (ps_if (pt_cm os_lt (pe_mth hr tk (pe_var (i := 1) rfl (Or.inl rfl) nd_second.1 nd_second.2) (pa_cons (pe_var (i := 0) rfl (Or.inl rfl) nd_first.1 nd_first.2) pa_nil)) pe_int (nomark _)) (pss_one (ps_ret (pe_var (i := 1) rfl (Or.inl rfl) nd_second.1 nd_second.2))) pss_nil) (pss_one (ps_ret (pe_var (i := 0) rfl (Or.inl rfl) nd_first.1 nd_first.2)))), ?_⟩)
  rintro ds m K E - ⟨x, y, rfl, hx, hy, k⟩
  show Ws _ _ _ [some (rq C_Ratio x), some (rq C_Ratio y)] _ _
  try dsimp only [cx_G, cx_K]
  have R := T.R_Ratio
  have e : qmin x y = if cq y x < 0 then y else x := by
    unfold qmin
    simp only [cq_neg]
  rw [e] at k
  walk_at "go_4"
  all_goals try assumption
  · rw [if_pos ‹_›] at k
    exact k
  · rw [if_neg ‹_›] at k
    exact k
theorem ok_greater (T : Txt G C_Ratio C_Span C_Apart C_Crossed C_CarryError) (m_Ratio_compare : Met G 1 C_Ratio ["top", "bottom"] "compare" 2 (S_qcmp C_Ratio) []) {f : Addr} {fd : FuncData} (F : L2.Fun G.K "greater" "greater" s_greater f fd) (b : L2.Binds G.K fd ["first", "second"] []) : Fnx G 2 f 2 (S_qgreat C_Ratio) [] := by
  refine fnx_of F sc_greater rfl b .nil rfl (fun cdv A outer s H FF hr tk => ⟨_, (pss_cons (ps_if (pt_cm os_gt (pe_mth hr tk (pe_var (i := 1) rfl (Or.inl rfl) nd_second.1 nd_second.2) (pa_cons (pe_var (i := 0) rfl (Or.inl rfl) nd_first.1 nd_first.2) pa_nil)) pe_int (nomark _)) (pss_one (ps_ret (pe_var (i := 1) rfl (Or.inl rfl) nd_second.1 nd_second.2))) pss_nil) (pss_one (ps_ret (pe_var (i := 0) rfl (Or.inl rfl) nd_first.1 nd_first.2)))), ?_⟩)
  rintro ds m K E - ⟨x, y, rfl, hx, hy, k⟩
  show Ws _ _ _ [some (rq C_Ratio x), some (rq C_Ratio y)] _ _
  try dsimp only [cx_G, cx_K]
  have R := T.R_Ratio
  have e : qmax x y = if 0 < cq y x then y else x := by
    unfold qmax
    simp only [cq_pos]
  rw [e] at k
  walk_at "go_4"
  all_goals try assumption
  · rw [if_pos ‹_›] at k
    exact k
  · rw [if_neg ‹_›] at k
    exact k

end
end K06
set_option Elab.async false
set_option linter.all false
set_option maxRecDepth 100000
set_option maxHeartbeats 4000000
namespace K06
open PySem PySem.Spec L2 DL
open PyProof.Rows hiding St
/-! one step, by the goal's head -/

/-! Ratio and Span by numbers: their promises used -/


section
variable {G : Gx} {C_Ratio C_Span C_Apart C_Crossed C_CarryError : Addr}
local macro_rules | `(tactic| walk_at "useWe_1") => `(tactic| first | (with_reducible refine we_mt ?_) | (with_reducible refine we_ratQ ?_) | (with_reducible refine we_ratQ1 ?_) | (with_reducible refine we_spn ?_) | (with_reducible refine we_sta ?_) | fail)
local macro_rules | `(tactic| walk_at "sWe_1") => `(tactic| first
  | ((with_reducible refine we_var (d := ?d) ?hv ?hk); case hv => rfl)
  | (with_reducible first
    | refine we_cint ?_ | refine we_2 ?_ | refine we_fldF ?_ | refine we_cl0 ?_ | refine we_tup ?_ | refine we_1 ?_ | refine we_c2 ?_ | refine we_cbl ?_ | refine we_cnon ?_ | refine we_cty ?_ | refine we_cref ?_
    | refine we_op ?_ | refine we_andV ?_ | refine we_orV ?_ | refine we_notV ?_ | refine we_3 ?_ | refine we_ifx ?_ | refine we_cstr ?_ | refine we_clH ?_)
  | walk_at "useWe_1")
local macro_rules | `(tactic| walk_at "useW2_1") => `(tactic| first
  | (with_reducible refine w2_qeq (by assumption) (by decide) (by assumption) ?_) | (with_reducible refine w2_seq (by assumption) (by decide) (by assumption) ?_)
  | (with_reducible refine w2_seqQ (by assumption) (by decide) (by assumption) (by assumption) (by assumption) ?_) | (with_reducible refine w2_qeqS (by assumption) (by decide) (by assumption) (by assumption) (by assumption) ?_)
  | (with_reducible refine w2_seqL (by assumption) (by decide) (by assumption) (by constructor) ?_) | (with_reducible refine w2_seqR (by assumption) (by decide) (by assumption) (by constructor) ?_)
  | (with_reducible refine w2_addStr ?_ ?_) | (with_reducible refine w2_neSame ?_) | (with_reducible refine w2_eqSame ?_) | (with_reducible refine w2_eqHFI ?_) | (with_reducible refine w2_neHFI ?_)
  | (with_reducible refine w2_andO (by assumption) (by decide) .fixed .fixed ?_)
  | (with_reducible refine w2_addO (by assumption) (by decide) .fixed .fixed ?_) | (with_reducible refine w2_subO (by assumption) (by decide) .fixed .fixed ?_) | (with_reducible refine w2_mulO (by assumption) (by decide) .fixed .fixed ?_) | (with_reducible refine w1_negO (by assumption) (by decide) .fixed ?_) | (with_reducible refine w2_inO (by assumption) (by decide) .fixed ?_) | fail)
local macro_rules | `(tactic| walk_at "sW2_1") => `(tactic| first
  | (with_reducible first
    | refine w2_add ?_ | refine w2_sub ?_ | refine w2_mul ⟨?_, ?_⟩ | refine w2_fdiv ⟨?_, ?_⟩ | refine w2_mod ⟨?_, ?_⟩ | refine w2_pow ⟨?_, ?_⟩ | refine w2_eqI ?_ | refine w2_neI ?_ | refine w2_lt ?_ | refine w2_le ?_ | refine w2_gt ?_ | refine w2_ge ?_ | refine w2_eqFI ?_ | refine w2_neFI ?_)
  | ((with_reducible refine w2_ixT (d := ?d) ⟨?hv, ?hk⟩); case hv => rfl)
  | ((with_reducible refine w2_ixL (d := ?d) ⟨?hv, ?hk⟩); case hv => rfl)
  | ((with_reducible refine w2_ixM (d := ?d) .head ⟨?hv, ?hk⟩); case hv => rfl)
  | (with_reducible first
    | refine w2_eqIH ?_ | refine w2_neIH ?_ | refine w2_mulH ⟨?_, ?_⟩ | refine w2_addH ?_ | refine w2_subH ?_ | refine w2_isN ?_ | refine w2_notN ?_ | refine w2_isB ?_ | refine w2_notB ?_)
  | walk_at "useW2_1")
local macro_rules | `(tactic| walk_at "sWa_1") => `(tactic| with_reducible first | refine wa_nil ?_ | refine wa_cons ?_)
local macro_rules | `(tactic| walk_at "useWs_1") => `(tactic| first | (with_reducible refine ws_rs0 ?_) | (with_reducible refine ws_rs ?_) | fail)
local macro_rules | `(tactic| walk_at "sWs_1") => `(tactic| first
  | (with_reducible first | refine ws_seq ?_ | refine ws_ret ?_ | refine ws_asg ?_ | refine ws_next ?_ | refine ws_drop ?_ | refine ws_par ?_ | refine ws_par3 ?_ | refine ws_fldN ?_ | refine ws_brk ?_ | refine ws_cont ?_)
  | walk_at "useWs_1")
local macro_rules | `(tactic| walk_at "sWt_1") => `(tactic| with_reducible first | refine wt_test ?_ | refine wt_tr ?_ | refine wt_and ?_ | refine wt_or ?_ | refine wt_not ?_)
local macro_rules | `(tactic| walk_at "useWc_1") => `(tactic| fail)
local macro_rules | `(tactic| walk_at "sWc_1") => `(tactic| first
  | (with_reducible first | refine wc_int ?_ | refine wc_abs ?_ | refine wc_min ?_ | refine wc_gcd ?_ | refine wc_isiT .int kit_ii ?_ | refine wc_isiT .int kit_ib ?_ | refine wc_len .lst ?_ | refine wc_len .tup ?_ | refine wc_strI ?_ ?_)
  | walk_at "useWc_1")
local macro_rules | `(tactic| walk_at "sWg_1") => `(tactic| with_reducible first | refine wg_name ?_ | refine wg_subM ?_ | refine wg_tup rfl ?_)
local macro_rules | `(tactic| walk_at "sW1_1") => `(tactic| first | (with_reducible refine w1_neg ?_) | walk_at "useW2_1")
local macro_rules | `(tactic| walk_at "sWgs_1") => `(tactic| with_reducible first | refine wgs_cons ?_ | refine wgs_nil ?_)
local macro_rules | `(tactic| walk_at "useq_1") => `(tactic| first
  | (with_reducible refine fld_low (by assumption) ?_) | (with_reducible refine fld_high (by assumption) ?_)
  | (with_reducible refine mt_of0 (by assumption) (by decide) ?_) | (with_reducible refine RatQ.mk ?_ ?_ ?_)
  | (with_reducible refine use_qcmp ?_ ?_ ?_) | (with_reducible refine use_qsign ?_) | (with_reducible refine use_qdown ?_ ?_) | (with_reducible refine use_qup ?_ ?_)
  | (with_reducible refine use_qleast ?_ ?_ ?_) | (with_reducible refine use_qgreat ?_ ?_ ?_)
  | (with_reducible refine use_qadd ?_ ?_ ?_) | (with_reducible refine use_qsub ?_ ?_ ?_) | (with_reducible refine use_qmul ?_ ?_ ?_) | (with_reducible refine use_qdiv ?_ ?_ ?_ ?_) | (with_reducible refine use_qneg ?_ ?_)
  | (with_reducible refine SpnA.mk ?_ ?_ ?_ ?_)
  | (with_reducible refine use_s2 ?_ ?_) | (with_reducible refine use_sneg ?_ ?_ ?_ ?_) | (with_reducible refine use_scont ?_ ?_ ?_ ?_) | (with_reducible refine use_sdiv ?_ ?_ ?_)
  | (with_reducible refine setN_low (by assumption) ?_) | (with_reducible refine setN_high (by assumption) ?_)
  | fail)
local macro_rules | `(tactic| walk_at "useq3_1") => `(tactic| first
  | (with_reducible refine use_sand ?_ ?_ ?_ ?_ ?_ ?_) | (with_reducible refine use_satm ?_ ?_ ?_ ?_ ?_) | (with_reducible refine use_slen ?_ ?_ ?_) | (with_reducible refine use_spoint ?_ ?_) | (with_reducible refine use_qtext ?_ ?_) | (with_reducible refine use_stext ?_ ?_ ?_) | (with_reducible refine SpnX.mk ?_ ?_ ?_ ?_) | walk_at "useq_1")
local macro_rules | `(tactic| walk_at "use_1") => `(tactic| first | walk_at "useq3_1" | fail)
local macro_rules | `(tactic| walk_at "sX_1") => `(tactic| first
  | (with_reducible refine ⟨_, rfl, ?_⟩)
  | (with_reducible refine fld_top (by assumption) ?_) | (with_reducible refine fld_bottom (by assumption) ?_)
  | (with_reducible refine ⟨_, .bl, ?_⟩)
  | ((with_reducible refine ⟨?h, ?_⟩); case h => rfl)
  | (with_reducible refine ⟨_, _, rfl, ?_⟩)
  | (with_reducible refine ⟨_, _, _, rfl, ?_⟩)
  | walk_at "use_1"
  | (with_reducible refine setN_top (by assumption) ?_) | (with_reducible refine setN_bottom (by assumption) ?_)
  | ((with_reducible refine ⟨_, _, _, ?j, _, rfl, rfl, .head, ?h, .head, ?_⟩); case h => rfl)
  | fail)
local macro_rules | `(tactic| walk_at "st_1") => `(tactic| first
  | ((with_reducible show We _ _ _ _ _ _); walk_at "sWe_1")
  | ((with_reducible show W2 _ _ _ _ _ _ _ _); walk_at "sW2_1")
  | ((with_reducible show Wa _ _ _ _ _ _); walk_at "sWa_1")
  | ((with_reducible show Ws _ _ _ _ _ _); walk_at "sWs_1")
  | ((with_reducible show Wt _ _ _ _ _ _); walk_at "sWt_1")
  | ((with_reducible show Wc _ _ _ _ _ _ _); walk_at "sWc_1")
  | ((with_reducible show Wg _ _ _ _ _ _ _); walk_at "sWg_1")
  | ((with_reducible show W1 _ _ _ _ _ _ _); walk_at "sW1_1")
  | ((with_reducible show Wgs _ _ _ _ _ _ _); walk_at "sWgs_1")
  | walk_at "sX_1" | fail)
local macro_rules | `(tactic| walk_at "wif_1") => `(tactic| (with_reducible refine ws_if ?_))
local macro_rules | `(tactic| walk_at "br_1") => `(tactic| ((with_reducible refine ⟨fun hb => ?_, fun hb => ?_⟩) <;> (try simp only [decide_eq_true_eq, decide_eq_false_iff_not, Bool.not_eq_true', Bool.not_eq_false', Bool.and_eq_true, Bool.or_eq_true, reduceCtorEq, List.length_map, Bool.not_true, Bool.not_false, DL.isNon, not_true_eq_false, not_false_eq_true, Classical.not_not, List.all_cons, List.all_nil, id_eq, Bool.and_self, Bool.true_and, decide_true, decide_false] at hb)))
local macro_rules | `(tactic| walk_at "go_1") => `(tactic| repeat' (first | walk_at "st_1" | walk_at "wif_1" | walk_at "br_1" | fail))
theorem okx_Crossed {G : Gx} {C_Crossed : Addr} (ox : OexC G.K C_Crossed) (no1 : PySem.W.findIn G.K (.ref C_Crossed) "low" = some none) (no2 : PySem.W.findIn G.K (.ref C_Crossed) "high" = some none) {f : Addr} {fd : FuncData} (F : L2.Fun G.K "__init__" "Crossed.__init__" s_Crossed___init__ f fd) : FnOk G.P G.w G.K G.mg G.base CX0 1 f fd ["self", "low", "high"] (spXI C_Crossed ["low", "high"]) := by
  refine F.ok sc_Crossed___init__ (fun vs H Q E h => ?_) (fun cdv A outer s H vs Q E hr h => ?_)
  · obtain ⟨a, ys, rfl, hl, _⟩ := h
    rw [List.length_cons, hl]
    rfl
  · obtain ⟨a, ys, rfl, hl, ha, k⟩ := h
    match ys, hl with
    | [y1, y2], _ =>
      refine ⟨_, pss_cons (ps_ost (pv 0) (pv 1)) (pss_one (ps_ost (pv 0) (pv 2))), ?_⟩
      refine ⟨_, rfl, _, rfl, a, C_Crossed, rfl, ox, no1, .inl ⟨ha, fun dx hdx hne => ?_⟩⟩
      refine ⟨_, rfl, _, rfl, a, C_Crossed, rfl, ox, no2, .inr ⟨dx, [("low", y1)], upd_same, by rw [upd_ne hne]; exact upd_same, (by show 1 ≤ 900; decide), ?_⟩⟩
      exact k dx _ hdx hne (fun b hb1 hb2 => by rw [upd_ne hb2, upd_ne hb1, upd_ne hb2]) (by rw [upd_ne (Ne.symm hne)]; exact upd_same) upd_same
theorem ok_sinitX (T : Txt G C_Ratio C_Span C_Apart C_Crossed C_CarryError) (m_Ratio_compare : Met G 1 C_Ratio ["top", "bottom"] "compare" 2 (S_qcmp C_Ratio) []) {f : Addr} {fd : FuncData} (F : L2.Fun G.K "__init__" "Span.__init__" s_Span___init__ f fd) (b : L2.Binds G.K fd ["self", "low", "high"] []) : Fnx G 3 f 3 (S_sinitX C_Span C_Ratio C_Crossed) [] := by
  refine fnx_of F sc_Span___init__ rfl b .nil rfl (fun cdv A outer s H FF hr tk => ⟨_, (pss_cons (ps_if (pt_cm os_gt (pe_mth hr tk (pe_var (i := 1) rfl (Or.inl rfl) nd_low.1 nd_low.2) (pa_cons (pe_var (i := 2) rfl (Or.inl rfl) nd_high.1 nd_high.2) pa_nil)) pe_int (nomark _)) (pss_one (ps_rs T.x_Crossed rfl hr (by decide) tk rfl (pa_cons (pe_var (i := 1) rfl (Or.inl rfl) nd_low.1 nd_low.2) (pa_cons (pe_var (i := 2) rfl (Or.inl rfl) nd_high.1 nd_high.2) pa_nil)))) pss_nil) (pss_cons (ps_fld (pe_var (i := 0) rfl (Or.inl rfl) nd_self.1 nd_self.2) (pe_var (i := 1) rfl (Or.inl rfl) nd_low.1 nd_low.2) rfl) (pss_one (ps_fld (pe_var (i := 0) rfl (Or.inl rfl) nd_self.1 nd_self.2) (pe_var (i := 2) rfl (Or.inl rfl) nd_high.1 nd_high.2) rfl)))), ?_⟩)
  rintro ds m K E - ⟨x, m0, a, b, rfl, rfl, qa, qb, k⟩
  show Ws _ _ _ [some (.ref x), some (rq C_Ratio a), some (rq C_Ratio b)] _ _
  try dsimp only [cx_G, cx_K]
  have R := T.R_Ratio
  have S := T.S_Span
  have bad : 0 < cq a b → E ⟨C_Crossed, ["high", "low"], [rq C_Ratio b, rq C_Ratio a]⟩ ((x, .ins C_Span [] []) :: m0) := fun z => by
    rcases k with ⟨_, k⟩ | ⟨le, _⟩
    · exact k
    · exact absurd le (Rat.not_le.mpr (cq_pos.mp z))
  have good : ¬ 0 < cq a b → K .non ((x, .ins C_Span ["low", "high"] [rq C_Ratio a, rq C_Ratio b]) :: m0) := fun z => by
    rcases k with ⟨lt, _⟩ | ⟨_, k⟩
    · exact absurd (cq_pos.mpr lt) z
    · exact k
  walk_at "go_1"
  all_goals first | assumption | exact bad ‹_› | exact good ‹_›
theorem ok_scont (T : Txt G C_Ratio C_Span C_Apart C_Crossed C_CarryError) (m_Ratio_compare : Met G 1 C_Ratio ["top", "bottom"] "compare" 2 (S_qcmp C_Ratio) []) {f : Addr} {fd : FuncData} (F : L2.Fun G.K "__contains__" "Span.__contains__" s_Span___contains__ f fd) (b : L2.Binds G.K fd ["self", "ratio"] []) : Fnx G 2 f 2 (S_scont C_Span C_Ratio) [] := by
  refine fnx_of F sc_Span___contains__ rfl b .nil rfl (fun cdv A outer s H FF hr tk => ⟨_, (pss_one (ps_ret (pe_and (pe_cm os_le (pe_mth hr tk (pe_fld (pe_var (i := 0) rfl (Or.inl rfl) nd_self.1 nd_self.2) rfl) (pa_cons (pe_var (i := 1) rfl (Or.inl rfl) nd_ratio.1 nd_ratio.2) pa_nil)) pe_int (nomark _)) (pe_one (pe_cm os_le (pe_mth hr tk (pe_var (i := 1) rfl (Or.inl rfl) nd_ratio.1 nd_ratio.2) (pa_cons (pe_fld (pe_var (i := 0) rfl (Or.inl rfl) nd_self.1 nd_self.2) rfl) pa_nil)) pe_int (nomark _)))))), ?_⟩)
  rintro ds m K E - ⟨x0, x1, x, rfl, a0, a1, a2, k⟩
  show Ws _ _ _ [some (spn C_Span C_Ratio x0 x1), some (rq C_Ratio x)] _ _
  try dsimp only [cx_G, cx_K]
  have R := T.R_Ratio
  have S := T.S_Span
  have e : decide (x0 ≤ x ∧ x ≤ x1) = (decide (cq x0 x ≤ 0) && decide (cq x x1 ≤ 0)) := by
    rw [Bool.decide_and]
    simp only [cq_le]
  rw [e] at k
  walk_at "go_1"
  all_goals try assumption
  · rw [decide_eq_true ‹_›, Bool.true_and] at k
    exact k
  · rw [decide_eq_false (by omega), Bool.false_and] at k
    exact k
theorem ok_seq (T : Txt G C_Ratio C_Span C_Apart C_Crossed C_CarryError) (o_Ratio___eq__ : Opr G 1 C_Ratio "__eq__" 2 (S_qeq G C_Ratio)) {f : Addr} {fd : FuncData} (F : L2.Fun G.K "__eq__" "Span.__eq__" s_Span___eq__ f fd) (b : L2.Binds G.K fd ["self", "other"] []) : Fnx G 2 f 2 (S_seq G C_Span C_Ratio) [] := by
  refine fnx_of F sc_Span___eq__ rfl b .nil rfl (fun cdv A outer s H FF hr tk => ⟨_, (pss_cons (ps_if (pt_not (pt_tr (pe_cb cs_isi rfl T.n_isinstance bt_isinstance (pa_cons (pe_var (i := 1) rfl (Or.inl rfl) nd_other.1 nd_other.2) (pa_cons (pe_glob (v := .ref C_Span) rfl T.mg_Span rfl) pa_nil))))) (pss_one (ps_ret pe_bl)) pss_nil) (pss_one (ps_ret (pe_and (pe_cm (os_eqF hr tk) (pe_fld (pe_var (i := 0) rfl (Or.inl rfl) nd_self.1 nd_self.2) rfl) (pe_fld (pe_var (i := 1) rfl (Or.inl rfl) nd_other.1 nd_other.2) rfl) (nomark _)) (pe_one (pe_cm (os_eqF hr tk) (pe_fld (pe_var (i := 0) rfl (Or.inl rfl) nd_self.1 nd_self.2) rfl) (pe_fld (pe_var (i := 1) rfl (Or.inl rfl) nd_other.1 nd_other.2) rfl) (nomark _))))))), ?_⟩)
  rintro ds m K E - ⟨x0, x1, d', rfl, k⟩
  show Ws _ _ _ [some (spn C_Span C_Ratio x0 x1), some d'] _ _
  try dsimp only [cx_G, cx_K]
  have R := T.R_Ratio
  have RI := R.ins
  have S := T.S_Span
  have SI := S.ins
  have iS := T.is_Span_Span
  rcases k with ⟨y0, y1, rfl, k⟩ | ⟨t, ty, kt, k⟩
  · rw [Bool.decide_and] at k
    walk_at "go_1"
    refine wc_isiC (.ins SI) iS ?_
    walk_at "go_1"
    · rw [decide_eq_true ‹_›, Bool.true_and] at k
      exact k
    · rw [decide_eq_false ‹_›, Bool.false_and] at k
      exact k
  · walk_at "go_1"
    refine wc_isiC ty kt ?_
    walk_at "go_1"
    exact k
theorem ok_sand (T : Txt G C_Ratio C_Span C_Apart C_Crossed C_CarryError) (k_Span : Mak G 3 "Span" C_Span 3 (S_sinit C_Span C_Ratio) []) (m_Ratio_compare : Met G 1 C_Ratio ["top", "bottom"] "compare" 2 (S_qcmp C_Ratio) []) (c_lesser : Cal G 2 "lesser" 2 (S_qleast C_Ratio) []) (c_greater : Cal G 2 "greater" 2 (S_qgreat C_Ratio) []) {f : Addr} {fd : FuncData} (F : L2.Fun G.K "__and__" "Span.__and__" s_Span___and__ f fd) (b : L2.Binds G.K fd ["self", "other"] []) : Fnx G 5 f 2 (S_sand C_Span C_Ratio C_Apart) [] := by
  refine fnx_of F sc_Span___and__ rfl b .nil rfl (fun cdv A outer s H FF hr tk => ⟨_, (pss_cons (ps_set (i := 2) sc_Span___and__.nd rfl (Or.inl rfl) (pe_cl c_greater hr (by decide) tk rfl (pa_cons (pe_fld (pe_var (i := 0) rfl (Or.inl rfl) nd_self.1 nd_self.2) rfl) (pa_cons (pe_fld (pe_var (i := 1) rfl (Or.inl rfl) nd_other.1 nd_other.2) rfl) pa_nil)))) (pss_cons (ps_set (i := 3) sc_Span___and__.nd rfl (Or.inl rfl) (pe_cl c_lesser hr (by decide) tk rfl (pa_cons (pe_fld (pe_var (i := 0) rfl (Or.inl rfl) nd_self.1 nd_self.2) rfl) (pa_cons (pe_fld (pe_var (i := 1) rfl (Or.inl rfl) nd_other.1 nd_other.2) rfl) pa_nil)))) (pss_cons (ps_if (pt_cm os_gt (pe_mth hr tk (pe_var (i := 2) rfl (Or.inl rfl) nd_low.1 nd_low.2) (pa_cons (pe_var (i := 3) rfl (Or.inl rfl) nd_high.1 nd_high.2) pa_nil)) pe_int (nomark _)) (pss_one (ps_rs0 T.x0_Apart rfl tk rfl)) pss_nil) (pss_one (ps_ret (pe_mak k_Span hr (by decide) tk rfl (pa_cons (pe_var (i := 2) rfl (Or.inl rfl) nd_low.1 nd_low.2) (pa_cons (pe_var (i := 3) rfl (Or.inl rfl) nd_high.1 nd_high.2) pa_nil)))))))), ?_⟩)
  rintro ds m K E - ⟨x0, x1, y0, y1, rfl, a0, a1, b0, b1, k⟩
  show Ws _ _ _ [some (spn C_Span C_Ratio x0 x1), some (spn C_Span C_Ratio y0 y1), none, none] _ _
  try dsimp only [cx_G, cx_K]
  have R := T.R_Ratio
  have S := T.S_Span
  have q1 := qmax_qb a0 b0
  have q2 := qmin_qb a1 b1
  have bad : 0 < cq (qmax x0 y0) (qmin x1 y1) → E ⟨C_Apart, [], []⟩ m := fun z => by
    rcases k with ⟨_, k⟩ | ⟨le, _⟩
    · exact k
    · exact absurd le (Rat.not_le.mpr (cq_pos.mp z))
  have good : ¬ 0 < cq (qmax x0 y0) (qmin x1 y1) → qmax x0 y0 ≤ qmin x1 y1 ∧ (pF K).rt (spn C_Span C_Ratio (qmax x0 y0) (qmin x1 y1)) m := fun z => by
    rcases k with ⟨lt, _⟩ | ⟨le, k⟩
    · exact absurd (cq_pos.mpr lt) z
    · exact ⟨le, k⟩
  walk_at "go_1"
  all_goals first | assumption | exact bad ‹_› | exact (good ‹_›).1 | exact (good ‹_›).2
theorem ok_satm (T : Txt G C_Ratio C_Span C_Apart C_Crossed C_CarryError) (m_Ratio_compare : Met G 1 C_Ratio ["top", "bottom"] "compare" 2 (S_qcmp C_Ratio) []) {f : Addr} {fd : FuncData} (F : L2.Fun G.K "at_most" "Span.at_most" s_Span_at_most f fd) (b : L2.Binds G.K fd ["self", "other"] []) : Fnx G 2 f 2 (S_satm C_Span C_Ratio) [] := by
  refine fnx_of F sc_Span_at_most rfl b .nil rfl (fun cdv A outer s H FF hr tk => ⟨_, (pss_cons (ps_if (pt_cm os_le (pe_mth hr tk (pe_fld (pe_var (i := 0) rfl (Or.inl rfl) nd_self.1 nd_self.2) rfl) (pa_cons (pe_fld (pe_var (i := 1) rfl (Or.inl rfl) nd_other.1 nd_other.2) rfl) pa_nil)) pe_int (nomark _)) (pss_one (ps_ret pe_bl)) pss_nil) (pss_cons (ps_if (pt_cm os_gt (pe_mth hr tk (pe_fld (pe_var (i := 0) rfl (Or.inl rfl) nd_self.1 nd_self.2) rfl) (pa_cons (pe_fld (pe_var (i := 1) rfl (Or.inl rfl) nd_other.1 nd_other.2) rfl) pa_nil)) pe_int (nomark _)) (pss_one (ps_ret pe_bl)) pss_nil) (pss_one (ps_ret pe_non)))), ?_⟩)
  rintro ds m K E - ⟨x0, x1, y0, y1, rfl, a0, a1, b0, b1, k1, k2, k3⟩
  show Ws _ _ _ [some (spn C_Span C_Ratio x0 x1), some (spn C_Span C_Ratio y0 y1)] _ _
  try dsimp only [cx_G, cx_K]
  have R := T.R_Ratio
  have S := T.S_Span
  rw [← cq_le] at k1
  rw [← cq_le, ← cq_pos] at k2 k3
  walk_at "go_1"
  all_goals first | assumption | exact k1 ‹_› | exact k2 ‹_› ‹_› | exact k3 ‹_› ‹_›
theorem ok_slen (T : Txt G C_Ratio C_Span C_Apart C_Crossed C_CarryError) (o_Ratio___sub__ : Opr G 3 C_Ratio "__sub__" 2 (S_qsub C_Ratio)) {f : Addr} {fd : FuncData} (F : L2.Fun G.K "length" "Span.length" s_Span_length f fd) (b : L2.Binds G.K fd ["self"] []) : Fnx G 4 f 1 (S_slen C_Span C_Ratio) [] := by
  refine fnx_of F sc_Span_length rfl b .nil rfl (fun cdv A outer s H FF hr tk => ⟨_, (pss_one (ps_ret (pe_bin (os_sub hr tk) (pe_fld (pe_var (i := 0) rfl (Or.inl rfl) nd_self.1 nd_self.2) rfl) (pe_fld (pe_var (i := 0) rfl (Or.inl rfl) nd_self.1 nd_self.2) rfl)))), ?_⟩)
  rintro ds m K E - ⟨x0, x1, rfl, a0, a1, k⟩
  show Ws _ _ _ [some (spn C_Span C_Ratio x0 x1)] _ _
  try dsimp only [cx_G, cx_K]
  have R := T.R_Ratio
  have S := T.S_Span
  walk_at "go_1"
  all_goals first | assumption | exact k
theorem ok_spoint (T : Txt G C_Ratio C_Span C_Apart C_Crossed C_CarryError) (k_Span : Mak G 3 "Span" C_Span 3 (S_sinit C_Span C_Ratio) []) {f : Addr} {fd : FuncData} (F : L2.Fun G.K "point" "Span.point" s_Span_point f fd) (b : L2.Binds G.K fd ["ratio"] []) : Fnx G 5 f 1 (S_spoint C_Span C_Ratio) [] := by
  refine fnx_of F sc_Span_point rfl b .nil rfl (fun cdv A outer s H FF hr tk => ⟨_, (pss_one (ps_ret (pe_mak k_Span hr (by decide) tk rfl (pa_cons (pe_var (i := 0) rfl (Or.inl rfl) nd_ratio.1 nd_ratio.2) (pa_cons (pe_var (i := 0) rfl (Or.inl rfl) nd_ratio.1 nd_ratio.2) pa_nil))))), ?_⟩)
  rintro ds m K E - ⟨x, rfl, a0, k⟩
  show Ws _ _ _ [some (rq C_Ratio x)] _ _
  try dsimp only [cx_G, cx_K]
  have S := T.S_Span
  have le : x ≤ x := Rat.le_refl
  walk_at "go_1"
  all_goals first | assumption | exact k
theorem ok_stext (T : Txt G C_Ratio C_Span C_Apart C_Crossed C_CarryError) (m_Ratio_text : Met G 1 C_Ratio ["top", "bottom"] "text" 1 (S_qtext C_Ratio) []) {f : Addr} {fd : FuncData} (F : L2.Fun G.K "text" "Span.text" s_Span_text f fd) (b : L2.Binds G.K fd ["self"] []) : Fnx G 2 f 1 (S_stext C_Span C_Ratio) [] := by
  refine fnx_of F sc_Span_text rfl b .nil rfl (fun cdv A outer s H FF hr tk => ⟨_, (pss_one (ps_ret (pe_bin (os_add hr tk) (pe_bin (os_add hr tk) (pe_bin (os_add hr tk) (pe_bin (os_add hr tk) pe_str (pe_mth0 hr tk (pe_fld (pe_var (i := 0) rfl (Or.inl rfl) nd_self.1 nd_self.2) rfl))) pe_str) (pe_mth0 hr tk (pe_fld (pe_var (i := 0) rfl (Or.inl rfl) nd_self.1 nd_self.2) rfl))) pe_str))), ?_⟩)
  rintro ds m K E - ⟨x0, x1, rfl, a0, a1, k⟩
  show Ws _ _ _ [some (spn C_Span C_Ratio x0 x1)] _ _
  try dsimp only [cx_G, cx_K]
  have S := T.S_Span
  have l0 := qtext_len a0
  have l1 := qtext_len a1
  walk_at "go_1"
  all_goals first | assumption | exact stext_ok1 l0 | exact stext_ok2 l0 | exact stext_ok3 l0 l1 | exact stext_ok4 l0 l1 | exact k

end
end K06
set_option Elab.async false
set_option linter.all false
set_option maxRecDepth 100000
set_option maxHeartbeats 4000000
namespace K06
open PySem PySem.Spec L2 DL
open PyProof.Rows hiding St
/-! one step, by the goal's head -/

/-! Ratio and Span by numbers: their promises used -/
local macro_rules | `(tactic| walk_at "useWe_1") => `(tactic| first | (with_reducible refine we_mt ?_) | (with_reducible refine we_ratQ ?_) | (with_reducible refine we_ratQ1 ?_) | (with_reducible refine we_spn ?_) | fail)
local macro_rules | `(tactic| walk_at "sWe_1") => `(tactic| first
  | ((with_reducible refine we_var (d := ?d) ?hv ?hk); case hv => rfl)
  | (with_reducible first
    | refine we_cint ?_ | refine we_2 ?_ | refine we_fldF ?_ | refine we_cl0 ?_ | refine we_tup ?_ | refine we_1 ?_ | refine we_c2 ?_ | refine we_cbl ?_ | refine we_cnon ?_ | refine we_cty ?_ | refine we_cref ?_
    | refine we_op ?_ | refine we_andV ?_ | refine we_orV ?_ | refine we_notV ?_ | refine we_3 ?_ | refine we_ifx ?_ | refine we_cstr ?_ | refine we_clH ?_)
  | walk_at "useWe_1")
local macro_rules | `(tactic| walk_at "useW2_1") => `(tactic| first
  | (with_reducible refine w2_addO (by assumption) (by decide) .fixed .fixed ?_) | (with_reducible refine w2_subO (by assumption) (by decide) .fixed .fixed ?_) | (with_reducible refine w2_mulO (by assumption) (by decide) .fixed .fixed ?_) | (with_reducible refine w1_negO (by assumption) (by decide) .fixed ?_) | (with_reducible refine w2_inO (by assumption) (by decide) .fixed ?_) | fail)
local macro_rules | `(tactic| walk_at "sW2_1") => `(tactic| first
  | (with_reducible first
    | refine w2_add ?_ | refine w2_sub ?_ | refine w2_mul ⟨?_, ?_⟩ | refine w2_fdiv ⟨?_, ?_⟩ | refine w2_mod ⟨?_, ?_⟩ | refine w2_pow ⟨?_, ?_⟩ | refine w2_eqI ?_ | refine w2_neI ?_ | refine w2_lt ?_ | refine w2_le ?_ | refine w2_gt ?_ | refine w2_ge ?_ | refine w2_eqFI ?_ | refine w2_neFI ?_)
  | ((with_reducible refine w2_ixT (d := ?d) ⟨?hv, ?hk⟩); case hv => rfl)
  | ((with_reducible refine w2_ixL (d := ?d) ⟨?hv, ?hk⟩); case hv => rfl)
  | ((with_reducible refine w2_ixM (d := ?d) .head ⟨?hv, ?hk⟩); case hv => rfl)
  | (with_reducible first
    | refine w2_eqIH ?_ | refine w2_neIH ?_ | refine w2_mulH ⟨?_, ?_⟩ | refine w2_addH ?_ | refine w2_subH ?_ | refine w2_isN ?_ | refine w2_notN ?_ | refine w2_isB ?_ | refine w2_notB ?_)
  | walk_at "useW2_1")
local macro_rules | `(tactic| walk_at "sWa_1") => `(tactic| with_reducible first | refine wa_nil ?_ | refine wa_cons ?_)
local macro_rules | `(tactic| walk_at "useWs_1") => `(tactic| first | (with_reducible refine ws_rs0 ?_) | (with_reducible refine ws_rs ?_) | fail)
local macro_rules | `(tactic| walk_at "sWs_1") => `(tactic| first
  | (with_reducible first | refine ws_seq ?_ | refine ws_ret ?_ | refine ws_asg ?_ | refine ws_next ?_ | refine ws_drop ?_ | refine ws_par ?_ | refine ws_par3 ?_ | refine ws_fldN ?_ | refine ws_brk ?_ | refine ws_cont ?_)
  | walk_at "useWs_1")
local macro_rules | `(tactic| walk_at "sWt_1") => `(tactic| with_reducible first | refine wt_test ?_ | refine wt_tr ?_ | refine wt_and ?_ | refine wt_or ?_ | refine wt_not ?_)
local macro_rules | `(tactic| walk_at "useWc_1") => `(tactic| fail)
local macro_rules | `(tactic| walk_at "sWc_1") => `(tactic| first
  | (with_reducible first | refine wc_int ?_ | refine wc_abs ?_ | refine wc_min ?_ | refine wc_gcd ?_ | refine wc_isiT .int kit_ii ?_ | refine wc_isiT .int kit_ib ?_ | refine wc_len .lst ?_ | refine wc_len .tup ?_ | refine wc_strI ?_ ?_)
  | walk_at "useWc_1")
local macro_rules | `(tactic| walk_at "sWg_1") => `(tactic| with_reducible first | refine wg_name ?_ | refine wg_subM ?_ | refine wg_tup rfl ?_)
local macro_rules | `(tactic| walk_at "sW1_1") => `(tactic| first | (with_reducible refine w1_neg ?_) | walk_at "useW2_1")
local macro_rules | `(tactic| walk_at "sWgs_1") => `(tactic| with_reducible first | refine wgs_cons ?_ | refine wgs_nil ?_)
local macro_rules | `(tactic| walk_at "use_1") => `(tactic| fail)
local macro_rules | `(tactic| walk_at "sX_1") => `(tactic| first
  | (with_reducible refine ⟨_, rfl, ?_⟩)
  | (with_reducible refine fld_top (by assumption) ?_) | (with_reducible refine fld_bottom (by assumption) ?_)
  | (with_reducible refine ⟨_, .bl, ?_⟩)
  | ((with_reducible refine ⟨?h, ?_⟩); case h => rfl)
  | (with_reducible refine ⟨_, _, rfl, ?_⟩)
  | (with_reducible refine ⟨_, _, _, rfl, ?_⟩)
  | walk_at "use_1"
  | (with_reducible refine setN_top (by assumption) ?_) | (with_reducible refine setN_bottom (by assumption) ?_)
  | ((with_reducible refine ⟨_, _, _, ?j, _, rfl, rfl, .head, ?h, .head, ?_⟩); case h => rfl)
  | fail)
local macro_rules | `(tactic| walk_at "st_1") => `(tactic| first
  | ((with_reducible show We _ _ _ _ _ _); walk_at "sWe_1")
  | ((with_reducible show W2 _ _ _ _ _ _ _ _); walk_at "sW2_1")
  | ((with_reducible show Wa _ _ _ _ _ _); walk_at "sWa_1")
  | ((with_reducible show Ws _ _ _ _ _ _); walk_at "sWs_1")
  | ((with_reducible show Wt _ _ _ _ _ _); walk_at "sWt_1")
  | ((with_reducible show Wc _ _ _ _ _ _ _); walk_at "sWc_1")
  | ((with_reducible show Wg _ _ _ _ _ _ _); walk_at "sWg_1")
  | ((with_reducible show W1 _ _ _ _ _ _ _); walk_at "sW1_1")
  | ((with_reducible show Wgs _ _ _ _ _ _ _); walk_at "sWgs_1")
  | walk_at "sX_1" | fail)
local macro_rules | `(tactic| walk_at "wif_1") => `(tactic| (with_reducible refine ws_if ?_))
local macro_rules | `(tactic| walk_at "br_1") => `(tactic| ((with_reducible refine ⟨fun hb => ?_, fun hb => ?_⟩) <;> (try simp only [decide_eq_true_eq, decide_eq_false_iff_not, Bool.not_eq_true', Bool.not_eq_false', Bool.and_eq_true, Bool.or_eq_true, reduceCtorEq, List.length_map, Bool.not_true, Bool.not_false, DL.isNon, not_true_eq_false, not_false_eq_true, Classical.not_not, List.all_cons, List.all_nil, id_eq, Bool.and_self, Bool.true_and, decide_true, decide_false] at hb)))
local macro_rules | `(tactic| walk_at "go_1") => `(tactic| repeat' (first | walk_at "st_1" | walk_at "wif_1" | walk_at "br_1" | fail))

abbrev pr (a b : Int) : D := .tup [.int a, .int b]
theorem e12 : (10 : Int) ^ Int.toNat 12 = 1000000000000 := by decide +kernel
theorem cp12 : CPow 10 12 := by
  unfold CPow
  decide +kernel
section
variable {G : Gx} {C_Ratio C_Span C_Apart C_Crossed C_CarryError : Addr}
def S_less : SpecD := fun ds m K _ => ∃ a b c d, ds = [pr a b, pr c d] ∧ Fr 3900 a b ∧ Fr 3900 c d ∧ K (.bl (decide (dv a b < dv c d))) m
theorem use_less {a b c d : Int} {m : Mu} {K : KT} {E : Ex → Mu → Prop} (h1 : Fr 3900 a b) (h2 : Fr 3900 c d) (h : K (.bl (decide (dv a b < dv c d))) m) : S_less [pr a b, pr c d] m K E := ⟨a, b, c, d, rfl, h1, h2, h⟩
theorem ok_less (T : Txt G C_Ratio C_Span C_Apart C_Crossed C_CarryError) {f : Addr} {fd : FuncData} (F : L2.Fun G.K "_law_less" "_law_less" s__law_less f fd) (b : L2.Binds G.K fd ["p", "q"] []) : Fnx G 1 f 2 S_less [] := by
  refine fnx_of F sc__law_less rfl b .nil rfl (fun cdv A outer s H FF hr tk => ⟨_, (pss_one (ps_ret (pe_cm os_lt (pe_bin (os_mul hr tk) (pe_ix ix_seq (pe_var (i := 0) rfl (Or.inl rfl) nd_p.1 nd_p.2) pe_int (fun _ _ => rfl)) (pe_ix ix_seq (pe_var (i := 1) rfl (Or.inl rfl) nd_q.1 nd_q.2) pe_int (fun _ _ => rfl))) (pe_bin (os_mul hr tk) (pe_ix ix_seq (pe_var (i := 1) rfl (Or.inl rfl) nd_q.1 nd_q.2) pe_int (fun _ _ => rfl)) (pe_ix ix_seq (pe_var (i := 0) rfl (Or.inl rfl) nd_p.1 nd_p.2) pe_int (fun _ _ => rfl))) (nomark _)))), ?_⟩)
  rintro ds m K E - ⟨a, b, c, d, rfl, h1, h2, k⟩
  show Ws _ _ _ [some (pr a b), some (pr c d)] _ _
  dsimp only [cx_G, cx_K]
  simp only [lt_dv h1.pos h2.pos] at k
  walk_at "go_1"
  · exact h1.bt.mulX h2.bb (by decide)
  · exact h2.bt.mulX h1.bb (by decide)
  · exact k
def S_plus : SpecD := fun ds m K _ => ∃ a b c d, ds = [pr a b, pr c d] ∧ Fr 3900 a b ∧ Fr 3900 c d ∧ K (pr (a * d + c * b) (b * d)) m
theorem use_plus {a b c d : Int} {m : Mu} {K : KT} {E : Ex → Mu → Prop} (h1 : Fr 3900 a b) (h2 : Fr 3900 c d) (h : K (pr (a * d + c * b) (b * d)) m) : S_plus [pr a b, pr c d] m K E := ⟨a, b, c, d, rfl, h1, h2, h⟩
theorem ok_plus (T : Txt G C_Ratio C_Span C_Apart C_Crossed C_CarryError) {f : Addr} {fd : FuncData} (F : L2.Fun G.K "_law_plus" "_law_plus" s__law_plus f fd) (b : L2.Binds G.K fd ["p", "q"] []) : Fnx G 1 f 2 S_plus [] := by
  refine fnx_of F sc__law_plus rfl b .nil rfl (fun cdv A outer s H FF hr tk => ⟨_, (pss_one (ps_ret (pe_tup (pa_cons (pe_bin (os_add hr tk) (pe_bin (os_mul hr tk) (pe_ix ix_seq (pe_var (i := 0) rfl (Or.inl rfl) nd_p.1 nd_p.2) pe_int (fun _ _ => rfl)) (pe_ix ix_seq (pe_var (i := 1) rfl (Or.inl rfl) nd_q.1 nd_q.2) pe_int (fun _ _ => rfl))) (pe_bin (os_mul hr tk) (pe_ix ix_seq (pe_var (i := 1) rfl (Or.inl rfl) nd_q.1 nd_q.2) pe_int (fun _ _ => rfl)) (pe_ix ix_seq (pe_var (i := 0) rfl (Or.inl rfl) nd_p.1 nd_p.2) pe_int (fun _ _ => rfl)))) (pa_cons (pe_bin (os_mul hr tk) (pe_ix ix_seq (pe_var (i := 0) rfl (Or.inl rfl) nd_p.1 nd_p.2) pe_int (fun _ _ => rfl)) (pe_ix ix_seq (pe_var (i := 1) rfl (Or.inl rfl) nd_q.1 nd_q.2) pe_int (fun _ _ => rfl))) pa_nil))))), ?_⟩)
  rintro ds m K E - ⟨a, b, c, d, rfl, h1, h2, k⟩
  show Ws _ _ _ [some (pr a b), some (pr c d)] _ _
  dsimp only [cx_G, cx_K]
  walk_at "go_1"
  · exact h1.bt.mulX h2.bb (by decide)
  · exact h2.bt.mulX h1.bb (by decide)
  · exact h1.bb.mulX h2.bb (by decide)
  · exact k
def S_minus : SpecD := fun ds m K _ => ∃ a b c d, ds = [pr a b, pr c d] ∧ Fr 3900 a b ∧ Fr 3900 c d ∧ K (pr (a * d - c * b) (b * d)) m
theorem use_minus {a b c d : Int} {m : Mu} {K : KT} {E : Ex → Mu → Prop} (h1 : Fr 3900 a b) (h2 : Fr 3900 c d) (h : K (pr (a * d - c * b) (b * d)) m) : S_minus [pr a b, pr c d] m K E := ⟨a, b, c, d, rfl, h1, h2, h⟩
theorem ok_minus (T : Txt G C_Ratio C_Span C_Apart C_Crossed C_CarryError) {f : Addr} {fd : FuncData} (F : L2.Fun G.K "_law_minus" "_law_minus" s__law_minus f fd) (b : L2.Binds G.K fd ["p", "q"] []) : Fnx G 1 f 2 S_minus [] := by
  refine fnx_of F sc__law_minus rfl b .nil rfl (fun cdv A outer s H FF hr tk => ⟨_, (pss_one (ps_ret (pe_tup (pa_cons (pe_bin (os_sub hr tk) (pe_bin (os_mul hr tk) (pe_ix ix_seq (pe_var (i := 0) rfl (Or.inl rfl) nd_p.1 nd_p.2) pe_int (fun _ _ => rfl)) (pe_ix ix_seq (pe_var (i := 1) rfl (Or.inl rfl) nd_q.1 nd_q.2) pe_int (fun _ _ => rfl))) (pe_bin (os_mul hr tk) (pe_ix ix_seq (pe_var (i := 1) rfl (Or.inl rfl) nd_q.1 nd_q.2) pe_int (fun _ _ => rfl)) (pe_ix ix_seq (pe_var (i := 0) rfl (Or.inl rfl) nd_p.1 nd_p.2) pe_int (fun _ _ => rfl)))) (pa_cons (pe_bin (os_mul hr tk) (pe_ix ix_seq (pe_var (i := 0) rfl (Or.inl rfl) nd_p.1 nd_p.2) pe_int (fun _ _ => rfl)) (pe_ix ix_seq (pe_var (i := 1) rfl (Or.inl rfl) nd_q.1 nd_q.2) pe_int (fun _ _ => rfl))) pa_nil))))), ?_⟩)
  rintro ds m K E - ⟨a, b, c, d, rfl, h1, h2, k⟩
  show Ws _ _ _ [some (pr a b), some (pr c d)] _ _
  dsimp only [cx_G, cx_K]
  walk_at "go_1"
  · exact h1.bt.mulX h2.bb (by decide)
  · exact h2.bt.mulX h1.bb (by decide)
  · exact h1.bb.mulX h2.bb (by decide)
  · exact k
local macro_rules | `(tactic| walk_at "useWe_2") => `(tactic| first | (with_reducible refine we_mt ?_) | (with_reducible refine we_ratQ ?_) | (with_reducible refine we_ratQ1 ?_) | (with_reducible refine we_spn ?_) | fail)
local macro_rules | `(tactic| walk_at "sWe_2") => `(tactic| first
  | ((with_reducible refine we_var (d := ?d) ?hv ?hk); case hv => rfl)
  | (with_reducible first
    | refine we_cint ?_ | refine we_2 ?_ | refine we_fldF ?_ | refine we_cl0 ?_ | refine we_tup ?_ | refine we_1 ?_ | refine we_c2 ?_ | refine we_cbl ?_ | refine we_cnon ?_ | refine we_cty ?_ | refine we_cref ?_
    | refine we_op ?_ | refine we_andV ?_ | refine we_orV ?_ | refine we_notV ?_ | refine we_3 ?_ | refine we_ifx ?_ | refine we_cstr ?_ | refine we_clH ?_)
  | walk_at "useWe_2")
local macro_rules | `(tactic| walk_at "useW2_2") => `(tactic| first
  | (with_reducible refine w2_addO (by assumption) (by decide) .fixed .fixed ?_) | (with_reducible refine w2_subO (by assumption) (by decide) .fixed .fixed ?_) | (with_reducible refine w2_mulO (by assumption) (by decide) .fixed .fixed ?_) | (with_reducible refine w1_negO (by assumption) (by decide) .fixed ?_) | (with_reducible refine w2_inO (by assumption) (by decide) .fixed ?_) | fail)
local macro_rules | `(tactic| walk_at "sW2_2") => `(tactic| first
  | (with_reducible first
    | refine w2_add ?_ | refine w2_sub ?_ | refine w2_mul ⟨?_, ?_⟩ | refine w2_fdiv ⟨?_, ?_⟩ | refine w2_mod ⟨?_, ?_⟩ | refine w2_pow ⟨?_, ?_⟩ | refine w2_eqI ?_ | refine w2_neI ?_ | refine w2_lt ?_ | refine w2_le ?_ | refine w2_gt ?_ | refine w2_ge ?_ | refine w2_eqFI ?_ | refine w2_neFI ?_)
  | ((with_reducible refine w2_ixT (d := ?d) ⟨?hv, ?hk⟩); case hv => rfl)
  | ((with_reducible refine w2_ixL (d := ?d) ⟨?hv, ?hk⟩); case hv => rfl)
  | ((with_reducible refine w2_ixM (d := ?d) .head ⟨?hv, ?hk⟩); case hv => rfl)
  | (with_reducible first
    | refine w2_eqIH ?_ | refine w2_neIH ?_ | refine w2_mulH ⟨?_, ?_⟩ | refine w2_addH ?_ | refine w2_subH ?_ | refine w2_isN ?_ | refine w2_notN ?_ | refine w2_isB ?_ | refine w2_notB ?_)
  | walk_at "useW2_2")
local macro_rules | `(tactic| walk_at "sWa_2") => `(tactic| with_reducible first | refine wa_nil ?_ | refine wa_cons ?_)
local macro_rules | `(tactic| walk_at "useWs_2") => `(tactic| first | (with_reducible refine ws_rs0 ?_) | (with_reducible refine ws_rs ?_) | fail)
local macro_rules | `(tactic| walk_at "sWs_2") => `(tactic| first
  | (with_reducible first | refine ws_seq ?_ | refine ws_ret ?_ | refine ws_asg ?_ | refine ws_next ?_ | refine ws_drop ?_ | refine ws_par ?_ | refine ws_par3 ?_ | refine ws_fldN ?_ | refine ws_brk ?_ | refine ws_cont ?_)
  | walk_at "useWs_2")
local macro_rules | `(tactic| walk_at "sWt_2") => `(tactic| with_reducible first | refine wt_test ?_ | refine wt_tr ?_ | refine wt_and ?_ | refine wt_or ?_ | refine wt_not ?_)
local macro_rules | `(tactic| walk_at "useWc_2") => `(tactic| fail)
local macro_rules | `(tactic| walk_at "sWc_2") => `(tactic| first
  | (with_reducible first | refine wc_int ?_ | refine wc_abs ?_ | refine wc_min ?_ | refine wc_gcd ?_ | refine wc_isiT .int kit_ii ?_ | refine wc_isiT .int kit_ib ?_ | refine wc_len .lst ?_ | refine wc_len .tup ?_ | refine wc_strI ?_ ?_)
  | walk_at "useWc_2")
local macro_rules | `(tactic| walk_at "sWg_2") => `(tactic| with_reducible first | refine wg_name ?_ | refine wg_subM ?_ | refine wg_tup rfl ?_)
local macro_rules | `(tactic| walk_at "sW1_2") => `(tactic| first | (with_reducible refine w1_neg ?_) | walk_at "useW2_2")
local macro_rules | `(tactic| walk_at "sWgs_2") => `(tactic| with_reducible first | refine wgs_cons ?_ | refine wgs_nil ?_)
local macro_rules | `(tactic| walk_at "use_2") => `(tactic| first | (with_reducible refine use_digit ?_ ?_ (by assumption) fun dg m' d0 d1 hpm => ?_) | (with_reducible refine use_less ?_ ?_ ?_) | (with_reducible refine use_plus ?_ ?_ ?_) | (with_reducible refine use_minus ?_ ?_ ?_) | fail)
local macro_rules | `(tactic| walk_at "sX_2") => `(tactic| first
  | (with_reducible refine ⟨_, rfl, ?_⟩)
  | (with_reducible refine fld_top (by assumption) ?_) | (with_reducible refine fld_bottom (by assumption) ?_)
  | (with_reducible refine ⟨_, .bl, ?_⟩)
  | ((with_reducible refine ⟨?h, ?_⟩); case h => rfl)
  | (with_reducible refine ⟨_, _, rfl, ?_⟩)
  | (with_reducible refine ⟨_, _, _, rfl, ?_⟩)
  | walk_at "use_2"
  | (with_reducible refine setN_top (by assumption) ?_) | (with_reducible refine setN_bottom (by assumption) ?_)
  | ((with_reducible refine ⟨_, _, _, ?j, _, rfl, rfl, .head, ?h, .head, ?_⟩); case h => rfl)
  | fail)
local macro_rules | `(tactic| walk_at "st_2") => `(tactic| first
  | ((with_reducible show We _ _ _ _ _ _); walk_at "sWe_2")
  | ((with_reducible show W2 _ _ _ _ _ _ _ _); walk_at "sW2_2")
  | ((with_reducible show Wa _ _ _ _ _ _); walk_at "sWa_2")
  | ((with_reducible show Ws _ _ _ _ _ _); walk_at "sWs_2")
  | ((with_reducible show Wt _ _ _ _ _ _); walk_at "sWt_2")
  | ((with_reducible show Wc _ _ _ _ _ _ _); walk_at "sWc_2")
  | ((with_reducible show Wg _ _ _ _ _ _ _); walk_at "sWg_2")
  | ((with_reducible show W1 _ _ _ _ _ _ _); walk_at "sW1_2")
  | ((with_reducible show Wgs _ _ _ _ _ _ _); walk_at "sWgs_2")
  | walk_at "sX_2" | fail)
local macro_rules | `(tactic| walk_at "wif_2") => `(tactic| (with_reducible refine ws_if ?_))
local macro_rules | `(tactic| walk_at "br_2") => `(tactic| ((with_reducible refine ⟨fun hb => ?_, fun hb => ?_⟩) <;> (try simp only [decide_eq_true_eq, decide_eq_false_iff_not, Bool.not_eq_true', Bool.not_eq_false', Bool.and_eq_true, Bool.or_eq_true, reduceCtorEq, List.length_map, Bool.not_true, Bool.not_false, DL.isNon, not_true_eq_false, not_false_eq_true, Classical.not_not, List.all_cons, List.all_nil, id_eq, Bool.and_self, Bool.true_and, decide_true, decide_false] at hb)))
local macro_rules | `(tactic| walk_at "go_2") => `(tactic| repeat' (first | walk_at "st_2" | walk_at "wif_2" | walk_at "br_2" | fail))
def S_fraction : SpecD := fun ds m K _ => ∃ p m0, ds = [.ref p] ∧ PotM p m0 m ∧ ∀ t b m', Fr 40 t b → PotM p m0 m' → K (pr t b) m'
theorem use_fraction {p : Addr} {m m0 : Mu} {K : KT} {E : Ex → Mu → Prop} (hm : PotM p m0 m) (h : ∀ t b m', Fr 40 t b → PotM p m0 m' → K (pr t b) m') : S_fraction [.ref p] m K E := ⟨p, m0, rfl, hm, h⟩
theorem ok_fraction (T : Txt G C_Ratio C_Span C_Apart C_Crossed C_CarryError) (c__law_digit : Cal G 1 "_law_digit" 2 S_digit []) {f : Addr} {fd : FuncData} (F : L2.Fun G.K "_law_fraction" "_law_fraction" s__law_fraction f fd) (b : L2.Binds G.K fd ["pot"] []) : Fnx G 2 f 1 S_fraction [] := by
  refine fnx_of F sc__law_fraction rfl b .nil rfl (fun cdv A outer s H FF hr tk => ⟨_, (pss_cons (ps_set (i := 1) sc__law_fraction.nd rfl (Or.inl rfl) (pe_cl c__law_digit hr (by decide) tk rfl (pa_cons (pe_var (i := 0) rfl (Or.inl rfl) nd_pot.1 nd_pot.2) (pa_cons pe_int pa_nil)))) (pss_cons (ps_if (pt_cm (os_eqF hr tk) (pe_var (i := 1) rfl (Or.inl rfl) nd_kind.1 nd_kind.2) pe_int (nomark _)) (pss_cons (ps_set (i := 2) sc__law_fraction.nd rfl (Or.inl rfl) (pe_bin (os_sub hr tk) (pe_cl c__law_digit hr (by decide) tk rfl (pa_cons (pe_var (i := 0) rfl (Or.inl rfl) nd_pot.1 nd_pot.2) (pa_cons (pe_bin (os_add hr tk) (pe_bin (os_mul hr tk) pe_int (pe_bin os_pow pe_int pe_int)) pe_int) pa_nil))) (pe_bin os_pow pe_int pe_int))) (pss_one (ps_ret (pe_tup (pa_cons (pe_var (i := 2) rfl (Or.inl rfl) nd_top.1 nd_top.2) (pa_cons (pe_bin (os_add hr tk) pe_int (pe_cl c__law_digit hr (by decide) tk rfl (pa_cons (pe_var (i := 0) rfl (Or.inl rfl) nd_pot.1 nd_pot.2) (pa_cons (pe_bin os_pow pe_int pe_int) pa_nil)))) pa_nil)))))) pss_nil) (pss_cons (ps_if (pt_cm (os_eqF hr tk) (pe_var (i := 1) rfl (Or.inl rfl) nd_kind.1 nd_kind.2) pe_int (nomark _)) (pss_cons (ps_set (i := 2) sc__law_fraction.nd rfl (Or.inl rfl) (pe_bin (os_sub hr tk) (pe_cl c__law_digit hr (by decide) tk rfl (pa_cons (pe_var (i := 0) rfl (Or.inl rfl) nd_pot.1 nd_pot.2) (pa_cons pe_int pa_nil))) pe_int)) (pss_one (ps_ret (pe_tup (pa_cons (pe_var (i := 2) rfl (Or.inl rfl) nd_top.1 nd_top.2) (pa_cons (pe_bin (os_add hr tk) pe_int (pe_cl c__law_digit hr (by decide) tk rfl (pa_cons (pe_var (i := 0) rfl (Or.inl rfl) nd_pot.1 nd_pot.2) (pa_cons pe_int pa_nil)))) pa_nil)))))) pss_nil) (pss_cons (ps_set (i := 2) sc__law_fraction.nd rfl (Or.inl rfl) (pe_bin (os_sub hr tk) pe_int (pe_cl c__law_digit hr (by decide) tk rfl (pa_cons (pe_var (i := 0) rfl (Or.inl rfl) nd_pot.1 nd_pot.2) (pa_cons pe_int pa_nil))))) (pss_one (ps_ret (pe_tup (pa_cons (pe_var (i := 2) rfl (Or.inl rfl) nd_top.1 nd_top.2) (pa_cons (pe_bin (os_sub hr tk) pe_int (pe_cl c__law_digit hr (by decide) tk rfl (pa_cons (pe_var (i := 0) rfl (Or.inl rfl) nd_pot.1 nd_pot.2) (pa_cons pe_int pa_nil)))) pa_nil))))))))), ?_⟩)
  rintro ds m K E - ⟨p, m0, rfl, hm, k⟩
  show Ws _ _ _ [some (.ref p), none, none] _ _
  dsimp only [cx_G, cx_K]
  have bg : ∀ x y : Int, 0 ≤ x → x < 2 * 10 ^ Int.toNat 12 + 1 → 0 ≤ y → y < 10 ^ Int.toNat 12 → ∀ m', PotM p m0 m' → K (pr (x - 10 ^ Int.toNat 12) (1 + y)) m' := fun x y hx hx2 hy hy2 m' hm => by
    rw [e12] at *
    exact k _ _ _ (fr_small (by omega) (by omega) (by omega)) hm
  have b2 : Bd 2 2 := bd_lit (by decide)
  walk_at "go_2"
  all_goals first
    | exact cp12
    | exact bg _ _ (by assumption) (by assumption) (by assumption) (by assumption) _ (by assumption)
    | exact bd_lit (by decide)
    | decide
    | exact (b2.mulX (bd_lit (n := 60) (by decide)) (by decide))
    | exact k _ _ _ (fr_small (by omega) (by omega) (by omega)) (by assumption)
local macro_rules | `(tactic| walk_at "useWe_3") => `(tactic| first | (with_reducible refine we_mt ?_) | (with_reducible refine we_ratQ ?_) | (with_reducible refine we_ratQ1 ?_) | (with_reducible refine we_spn ?_) | fail)
local macro_rules | `(tactic| walk_at "sWe_3") => `(tactic| first
  | ((with_reducible refine we_var (d := ?d) ?hv ?hk); case hv => rfl)
  | (with_reducible first
    | refine we_cint ?_ | refine we_2 ?_ | refine we_fldF ?_ | refine we_cl0 ?_ | refine we_tup ?_ | refine we_1 ?_ | refine we_c2 ?_ | refine we_cbl ?_ | refine we_cnon ?_ | refine we_cty ?_ | refine we_cref ?_
    | refine we_op ?_ | refine we_andV ?_ | refine we_orV ?_ | refine we_notV ?_ | refine we_3 ?_ | refine we_ifx ?_ | refine we_cstr ?_ | refine we_clH ?_)
  | walk_at "useWe_3")
local macro_rules | `(tactic| walk_at "useW2_3") => `(tactic| first
  | (with_reducible refine w2_addO (by assumption) (by decide) .fixed .fixed ?_) | (with_reducible refine w2_subO (by assumption) (by decide) .fixed .fixed ?_) | (with_reducible refine w2_mulO (by assumption) (by decide) .fixed .fixed ?_) | (with_reducible refine w1_negO (by assumption) (by decide) .fixed ?_) | (with_reducible refine w2_inO (by assumption) (by decide) .fixed ?_) | fail)
local macro_rules | `(tactic| walk_at "sW2_3") => `(tactic| first
  | (with_reducible first
    | refine w2_add ?_ | refine w2_sub ?_ | refine w2_mul ⟨?_, ?_⟩ | refine w2_fdiv ⟨?_, ?_⟩ | refine w2_mod ⟨?_, ?_⟩ | refine w2_pow ⟨?_, ?_⟩ | refine w2_eqI ?_ | refine w2_neI ?_ | refine w2_lt ?_ | refine w2_le ?_ | refine w2_gt ?_ | refine w2_ge ?_ | refine w2_eqFI ?_ | refine w2_neFI ?_)
  | ((with_reducible refine w2_ixT (d := ?d) ⟨?hv, ?hk⟩); case hv => rfl)
  | ((with_reducible refine w2_ixL (d := ?d) ⟨?hv, ?hk⟩); case hv => rfl)
  | ((with_reducible refine w2_ixM (d := ?d) .head ⟨?hv, ?hk⟩); case hv => rfl)
  | (with_reducible first
    | refine w2_eqIH ?_ | refine w2_neIH ?_ | refine w2_mulH ⟨?_, ?_⟩ | refine w2_addH ?_ | refine w2_subH ?_ | refine w2_isN ?_ | refine w2_notN ?_ | refine w2_isB ?_ | refine w2_notB ?_)
  | walk_at "useW2_3")
local macro_rules | `(tactic| walk_at "sWa_3") => `(tactic| with_reducible first | refine wa_nil ?_ | refine wa_cons ?_)
local macro_rules | `(tactic| walk_at "useWs_3") => `(tactic| first | (with_reducible refine ws_rs0 ?_) | (with_reducible refine ws_rs ?_) | fail)
local macro_rules | `(tactic| walk_at "sWs_3") => `(tactic| first
  | (with_reducible first | refine ws_seq ?_ | refine ws_ret ?_ | refine ws_asg ?_ | refine ws_next ?_ | refine ws_drop ?_ | refine ws_par ?_ | refine ws_par3 ?_ | refine ws_fldN ?_ | refine ws_brk ?_ | refine ws_cont ?_)
  | walk_at "useWs_3")
local macro_rules | `(tactic| walk_at "sWt_3") => `(tactic| with_reducible first | refine wt_test ?_ | refine wt_tr ?_ | refine wt_and ?_ | refine wt_or ?_ | refine wt_not ?_)
local macro_rules | `(tactic| walk_at "useWc_3") => `(tactic| fail)
local macro_rules | `(tactic| walk_at "sWc_3") => `(tactic| first
  | (with_reducible first | refine wc_int ?_ | refine wc_abs ?_ | refine wc_min ?_ | refine wc_gcd ?_ | refine wc_isiT .int kit_ii ?_ | refine wc_isiT .int kit_ib ?_ | refine wc_len .lst ?_ | refine wc_len .tup ?_ | refine wc_strI ?_ ?_)
  | walk_at "useWc_3")
local macro_rules | `(tactic| walk_at "sWg_3") => `(tactic| with_reducible first | refine wg_name ?_ | refine wg_subM ?_ | refine wg_tup rfl ?_)
local macro_rules | `(tactic| walk_at "sW1_3") => `(tactic| first | (with_reducible refine w1_neg ?_) | walk_at "useW2_3")
local macro_rules | `(tactic| walk_at "sWgs_3") => `(tactic| with_reducible first | refine wgs_cons ?_ | refine wgs_nil ?_)
local macro_rules | `(tactic| walk_at "use_3") => `(tactic| first | (with_reducible refine use_digit ?_ ?_ (by assumption) fun dg m' d0 d1 hpm => ?_) | (with_reducible refine use_less ?_ ?_ ?_) | (with_reducible refine use_plus ?_ ?_ ?_) | (with_reducible refine use_minus ?_ ?_ ?_) | (with_reducible refine use_fraction (by assumption) fun t b m' fr hpm => ?_) | fail)
local macro_rules | `(tactic| walk_at "sX_3") => `(tactic| first
  | (with_reducible refine ⟨_, rfl, ?_⟩)
  | (with_reducible refine fld_top (by assumption) ?_) | (with_reducible refine fld_bottom (by assumption) ?_)
  | (with_reducible refine ⟨_, .bl, ?_⟩)
  | ((with_reducible refine ⟨?h, ?_⟩); case h => rfl)
  | (with_reducible refine ⟨_, _, rfl, ?_⟩)
  | (with_reducible refine ⟨_, _, _, rfl, ?_⟩)
  | walk_at "use_3"
  | (with_reducible refine setN_top (by assumption) ?_) | (with_reducible refine setN_bottom (by assumption) ?_)
  | ((with_reducible refine ⟨_, _, _, ?j, _, rfl, rfl, .head, ?h, .head, ?_⟩); case h => rfl)
  | fail)
local macro_rules | `(tactic| walk_at "st_3") => `(tactic| first
  | ((with_reducible show We _ _ _ _ _ _); walk_at "sWe_3")
  | ((with_reducible show W2 _ _ _ _ _ _ _ _); walk_at "sW2_3")
  | ((with_reducible show Wa _ _ _ _ _ _); walk_at "sWa_3")
  | ((with_reducible show Ws _ _ _ _ _ _); walk_at "sWs_3")
  | ((with_reducible show Wt _ _ _ _ _ _); walk_at "sWt_3")
  | ((with_reducible show Wc _ _ _ _ _ _ _); walk_at "sWc_3")
  | ((with_reducible show Wg _ _ _ _ _ _ _); walk_at "sWg_3")
  | ((with_reducible show W1 _ _ _ _ _ _ _); walk_at "sW1_3")
  | ((with_reducible show Wgs _ _ _ _ _ _ _); walk_at "sWgs_3")
  | walk_at "sX_3" | fail)
local macro_rules | `(tactic| walk_at "wif_3") => `(tactic| (with_reducible refine ws_if ?_))
local macro_rules | `(tactic| walk_at "br_3") => `(tactic| ((with_reducible refine ⟨fun hb => ?_, fun hb => ?_⟩) <;> (try simp only [decide_eq_true_eq, decide_eq_false_iff_not, Bool.not_eq_true', Bool.not_eq_false', Bool.and_eq_true, Bool.or_eq_true, reduceCtorEq, List.length_map, Bool.not_true, Bool.not_false, DL.isNon, not_true_eq_false, not_false_eq_true, Classical.not_not, List.all_cons, List.all_nil, id_eq, Bool.and_self, Bool.true_and, decide_true, decide_false] at hb)))
local macro_rules | `(tactic| walk_at "go_3") => `(tactic| repeat' (first | walk_at "st_3" | walk_at "wif_3" | walk_at "br_3" | fail))
/-- two ends -/
structure Two2 (n : Nat) (a b c d : Int) : Prop where
  l : Fr n a b
  h : Fr n c d
  le : dv a b ≤ dv c d
def S_ends : SpecD := fun ds m K _ => ∃ p m0, ds = [.ref p] ∧ PotM p m0 m ∧ ∀ a b c d m', Two2 82 a b c d → PotM p m0 m' → K (.tup [pr a b, pr c d]) m'
theorem use_ends {p : Addr} {m m0 : Mu} {K : KT} {E : Ex → Mu → Prop} (hm : PotM p m0 m) (h : ∀ a b c d m', Two2 82 a b c d → PotM p m0 m' → K (.tup [pr a b, pr c d]) m') : S_ends [.ref p] m K E := ⟨p, m0, rfl, hm, h⟩
theorem up_plus {n k : Nat} {a b c d : Int} (h : Fr n a b) (q : Fr k c d) : dv a b ≤ dv (a * d + (c.natAbs : Int) * b) (b * d) := by
  rw [← add_dv (by have := h.pos; omega) (by have := q.pos; omega)]
  have := abs_nn (a := c) q.pos
  grind
theorem dn_minus {n k : Nat} {a b c d : Int} (h : Fr n a b) (q : Fr k c d) : dv (a * d - (c.natAbs : Int) * b) (b * d) ≤ dv a b := by
  rw [← sub_dv (by have := h.pos; omega) (by have := q.pos; omega)]
  have := abs_nn (a := c) q.pos
  grind
theorem ok_ends (T : Txt G C_Ratio C_Span C_Apart C_Crossed C_CarryError) (c__law_digit : Cal G 1 "_law_digit" 2 S_digit []) (c__law_fraction : Cal G 2 "_law_fraction" 1 S_fraction []) (c__law_less : Cal G 1 "_law_less" 2 S_less []) (c__law_plus : Cal G 1 "_law_plus" 2 S_plus []) {f : Addr} {fd : FuncData} (F : L2.Fun G.K "_law_ends" "_law_ends" s__law_ends f fd) (b : L2.Binds G.K fd ["pot"] []) : Fnx G 3 f 1 S_ends [] := by
  refine fnx_of F sc__law_ends rfl b .nil rfl (fun cdv A outer s H FF hr tk => ⟨_, (pss_cons (ps_set (i := 1) sc__law_ends.nd rfl (Or.inl rfl) (pe_cl c__law_digit hr (by decide) tk rfl (pa_cons (pe_var (i := 0) rfl (Or.inl rfl) nd_pot.1 nd_pot.2) (pa_cons pe_int pa_nil)))) (pss_cons (ps_set (i := 2) sc__law_ends.nd rfl (Or.inl rfl) (pe_cl c__law_fraction hr (by decide) tk rfl (pa_cons (pe_var (i := 0) rfl (Or.inl rfl) nd_pot.1 nd_pot.2) pa_nil))) (pss_cons (ps_if (pt_cm (os_eqF hr tk) (pe_var (i := 1) rfl (Or.inl rfl) nd_kind.1 nd_kind.2) pe_int (nomark _)) (pss_one (ps_ret (pe_tup (pa_cons (pe_var (i := 2) rfl (Or.inl rfl) nd_p.1 nd_p.2) (pa_cons (pe_var (i := 2) rfl (Or.inl rfl) nd_p.1 nd_p.2) pa_nil))))) pss_nil) (pss_cons (ps_set (i := 3) sc__law_ends.nd rfl (Or.inl rfl) (pe_cl c__law_fraction hr (by decide) tk rfl (pa_cons (pe_var (i := 0) rfl (Or.inl rfl) nd_pot.1 nd_pot.2) pa_nil))) (pss_cons (ps_if (pt_cm (os_eqF hr tk) (pe_var (i := 1) rfl (Or.inl rfl) nd_kind.1 nd_kind.2) pe_int (nomark _)) (pss_one (ps_ret (pe_tup (pa_cons (pe_var (i := 2) rfl (Or.inl rfl) nd_p.1 nd_p.2) (pa_cons (pe_cl c__law_plus hr (by decide) tk rfl (pa_cons (pe_var (i := 2) rfl (Or.inl rfl) nd_p.1 nd_p.2) (pa_cons (pe_tup (pa_cons (pe_cb cs_abs rfl T.n_abs bt_abs (pa_cons (pe_ix ix_seq (pe_var (i := 3) rfl (Or.inl rfl) nd_q.1 nd_q.2) pe_int (fun _ _ => rfl)) pa_nil)) (pa_cons (pe_ix ix_seq (pe_var (i := 3) rfl (Or.inl rfl) nd_q.1 nd_q.2) pe_int (fun _ _ => rfl)) pa_nil))) pa_nil))) pa_nil))))) pss_nil) (pss_cons (ps_if (pt_cm (os_eqF hr tk) (pe_var (i := 1) rfl (Or.inl rfl) nd_kind.1 nd_kind.2) pe_int (nomark _)) (pss_one (ps_ret (pe_tup (pa_cons (pe_tup (pa_cons (pe_una (us_neg hr tk) (pe_cb cs_abs rfl T.n_abs bt_abs (pa_cons (pe_ix ix_seq (pe_var (i := 2) rfl (Or.inl rfl) nd_p.1 nd_p.2) pe_int (fun _ _ => rfl)) pa_nil))) (pa_cons (pe_ix ix_seq (pe_var (i := 2) rfl (Or.inl rfl) nd_p.1 nd_p.2) pe_int (fun _ _ => rfl)) pa_nil))) (pa_cons (pe_tup (pa_cons (pe_cb cs_abs rfl T.n_abs bt_abs (pa_cons (pe_ix ix_seq (pe_var (i := 3) rfl (Or.inl rfl) nd_q.1 nd_q.2) pe_int (fun _ _ => rfl)) pa_nil)) (pa_cons (pe_ix ix_seq (pe_var (i := 3) rfl (Or.inl rfl) nd_q.1 nd_q.2) pe_int (fun _ _ => rfl)) pa_nil))) pa_nil))))) pss_nil) (pss_cons (ps_if (pt_cm (os_eqF hr tk) (pe_var (i := 1) rfl (Or.inl rfl) nd_kind.1 nd_kind.2) pe_int (nomark _)) (pss_one (ps_ret (pe_tup (pa_cons (pe_tup (pa_cons pe_int (pa_cons pe_int pa_nil))) (pa_cons (pe_tup (pa_cons (pe_cb cs_abs rfl T.n_abs bt_abs (pa_cons (pe_ix ix_seq (pe_var (i := 3) rfl (Or.inl rfl) nd_q.1 nd_q.2) pe_int (fun _ _ => rfl)) pa_nil)) (pa_cons (pe_ix ix_seq (pe_var (i := 3) rfl (Or.inl rfl) nd_q.1 nd_q.2) pe_int (fun _ _ => rfl)) pa_nil))) pa_nil))))) pss_nil) (pss_cons (ps_if (pt_cm (os_eqF hr tk) (pe_var (i := 1) rfl (Or.inl rfl) nd_kind.1 nd_kind.2) pe_int (nomark _)) (pss_one (ps_ret (pe_tup (pa_cons (pe_tup (pa_cons (pe_una (us_neg hr tk) (pe_cb cs_abs rfl T.n_abs bt_abs (pa_cons (pe_ix ix_seq (pe_var (i := 3) rfl (Or.inl rfl) nd_q.1 nd_q.2) pe_int (fun _ _ => rfl)) pa_nil))) (pa_cons (pe_ix ix_seq (pe_var (i := 3) rfl (Or.inl rfl) nd_q.1 nd_q.2) pe_int (fun _ _ => rfl)) pa_nil))) (pa_cons (pe_tup (pa_cons pe_int (pa_cons pe_int pa_nil))) pa_nil))))) pss_nil) (pss_cons (ps_if (pt_tr (pe_cl c__law_less hr (by decide) tk rfl (pa_cons (pe_var (i := 3) rfl (Or.inl rfl) nd_q.1 nd_q.2) (pa_cons (pe_var (i := 2) rfl (Or.inl rfl) nd_p.1 nd_p.2) pa_nil)))) (pss_one (ps_ret (pe_tup (pa_cons (pe_var (i := 3) rfl (Or.inl rfl) nd_q.1 nd_q.2) (pa_cons (pe_var (i := 2) rfl (Or.inl rfl) nd_p.1 nd_p.2) pa_nil))))) pss_nil) (pss_one (ps_ret (pe_tup (pa_cons (pe_var (i := 2) rfl (Or.inl rfl) nd_p.1 nd_p.2) (pa_cons (pe_var (i := 3) rfl (Or.inl rfl) nd_q.1 nd_q.2) pa_nil)))))))))))))), ?_⟩)
  rintro ds m K E - ⟨p, m0, rfl, hm, k⟩
  show Ws _ _ _ [some (.ref p), none, none, none] _ _
  dsimp only [cx_G, cx_K]
  have up : ∀ {a b}, Fr 40 a b → Fr 82 a b := fun h => h.mono (by decide)
  have z : Fr 82 0 1 := fr_zero.mono (by decide)
  have k1 : ∀ {a b m'}, Fr 40 a b → PotM p m0 m' → K (.tup [pr a b, pr a b]) m' := fun h q => k _ _ _ _ _ ⟨up h, up h, Rat.le_refl⟩ q
  have k0 : ∀ {a b c d m'}, Fr 40 a b → Fr 40 c d → PotM p m0 m' → K (.tup [pr a b, pr (a * d + (c.natAbs : Int) * b) (b * d)]) m' := fun h h2 q => k _ _ _ _ _ ⟨up h, (h.plus h2.abs).mono (by decide), up_plus h h2⟩ q
  have k2 : ∀ {a b c d m'}, Fr 40 a b → Fr 40 c d → PotM p m0 m' → K (.tup [pr (-(a.natAbs : Int)) b, pr (c.natAbs : Int) d]) m' := fun h h2 q => k _ _ _ _ _ ⟨up h.abs.neg, up h2.abs, Rat.le_trans (neg_np h.pos) (abs_nn h2.pos)⟩ q
  have k3 : ∀ {c d m'}, Fr 40 c d → PotM p m0 m' → K (.tup [pr 0 1, pr (c.natAbs : Int) d]) m' := fun h2 q => k _ _ _ _ _ ⟨z, up h2.abs, abs_nn h2.pos⟩ q
  have k4 : ∀ {c d m'}, Fr 40 c d → PotM p m0 m' → K (.tup [pr (-(c.natAbs : Int)) d, pr 0 1]) m' := fun h2 q => k _ _ _ _ _ ⟨up h2.abs.neg, z, neg_np h2.pos⟩ q
  have k5 : ∀ {a b c d m'}, Fr 40 a b → Fr 40 c d → dv c d < dv a b → PotM p m0 m' → K (.tup [pr c d, pr a b]) m' := fun h h2 l q => k _ _ _ _ _ ⟨up h2, up h, Rat.le_of_lt l⟩ q
  have k6 : ∀ {a b c d m'}, Fr 40 a b → Fr 40 c d → ¬ dv c d < dv a b → PotM p m0 m' → K (.tup [pr a b, pr c d]) m' := fun h h2 l q => k _ _ _ _ _ ⟨up h, up h2, Rat.not_lt.mp l⟩ q
  walk_at "go_3"
  all_goals first
    | decide
    | exact bd_lit (by decide)
    | exact Fr.mono ‹_› (by decide)
    | exact (Fr.abs ‹_›).mono (by decide)
    | exact k1 ‹_› ‹_›
    | exact k0 ‹_› ‹_› ‹_›
    | exact k2 ‹_› ‹_› ‹_›
    | exact k3 ‹_› ‹_›
    | exact k4 ‹_› ‹_›
    | exact k5 ‹_› ‹_› ‹_› ‹_›
    | exact k6 ‹_› ‹_› ‹_› ‹_›
theorem six {g : Int} (h0 : 0 ≤ g) (h7 : g < 7) : ∃ s : Int, atI [D.int 3, .int 0, .int 6, .int 1, .int 2, .int 4, .int 5] g = some (.int s) ∧ 0 ≤ s ∧ s ≤ 6 := by
  have e : g = 0 ∨ g = 1 ∨ g = 2 ∨ g = 3 ∨ g = 4 ∨ g = 5 ∨ g = 6 := by omega
  rcases e with rfl | rfl | rfl | rfl | rfl | rfl | rfl
  · exact ⟨3, rfl, by decide, by decide⟩
  · exact ⟨0, rfl, by decide, by decide⟩
  · exact ⟨6, rfl, by decide, by decide⟩
  · exact ⟨1, rfl, by decide, by decide⟩
  · exact ⟨2, rfl, by decide, by decide⟩
  · exact ⟨4, rfl, by decide, by decide⟩
  · exact ⟨5, rfl, by decide, by decide⟩
def S_between : SpecD := fun ds m K _ => ∃ p n a b c d m0, ds = [.ref p, .tup [pr a b, pr c d]] ∧ n ≤ 300 ∧ Two2 n a b c d ∧ PotM p m0 m ∧ ∀ t k m', Fr (3 * n + 5) t k → dv a b ≤ dv t k → dv t k ≤ dv c d → PotM p m0 m' → K (pr t k) m'
theorem use_between {p : Addr} {n : Nat} {a b c d : Int} {m m0 : Mu} {K : KT} {E : Ex → Mu → Prop} (hn : n ≤ 300) (h1 : Two2 n a b c d) (hm : PotM p m0 m) (h : ∀ t k m', Fr (3 * n + 5) t k → dv a b ≤ dv t k → dv t k ≤ dv c d → PotM p m0 m' → K (pr t k) m') : S_between [.ref p, .tup [pr a b, pr c d]] m K E := ⟨p, n, a, b, c, d, m0, rfl, hn, h1, hm, h⟩
theorem way {n : Nat} {a b c d s : Int} (h : Two2 n a b c d) (s0 : 0 ≤ s) (s6 : s ≤ 6) :
    Fr (n + n + 1) (c * b - a * d) (d * b) ∧ Fr (n + n + 4) ((c * b - a * d) * s) (d * b * 6) ∧ Fr (3 * n + 5) (a * (d * b * 6) + (c * b - a * d) * s * b) (b * (d * b * 6)) ∧ dv a b ≤ dv (a * (d * b * 6) + (c * b - a * d) * s * b) (b * (d * b * 6)) ∧ dv (a * (d * b * 6) + (c * b - a * d) * s * b) (b * (d * b * 6)) ≤ dv c d := by
  obtain ⟨h1, h2, h3⟩ := h
  have p1 := h1.pos
  have p2 := h2.pos
  have f1 : Fr (n + n + 1) (c * b - a * d) (d * b) := h2.minus h1
  have fs : Fr 3 s 6 := ⟨by decide, by unfold Bd; omega, bd_lit (by decide)⟩
  have f2 : Fr (n + n + 4) ((c * b - a * d) * s) (d * b * 6) := (f1.mul fs).mono (by omega)
  have f3 : Fr (3 * n + 5) (a * (d * b * 6) + (c * b - a * d) * s * b) (b * (d * b * 6)) := (h1.plus f2).mono (by omega)
  refine ⟨f1, f2, f3, ?_⟩
  have p3 := f1.pos
  have p4 := f2.pos
  rw [← add_dv (a := a) (b := b) (c := (c * b - a * d) * s) (d := d * b * 6) (by omega) (by omega), ← mul_dv, ← sub_dv (by omega) (by omega)]
  have w0 : 0 ≤ dv s 6 := (dv_nonneg (by decide)).mpr s0
  have w1 : dv s 6 ≤ 1 := by
    rw [show (1 : Rat) = dv 1 1 from rfl, le_dv (by decide) (by decide)]
    omega
  generalize dv s 6 = w at *
  generalize dv a b = x at *
  generalize dv c d = y at *
  have q0 : 0 ≤ y - x := by grind
  have q1 := Rat.mul_nonneg q0 w0
  have q2 := Rat.mul_nonneg q0 (show 0 ≤ 1 - w by grind)
  grind
theorem ok_between (T : Txt G C_Ratio C_Span C_Apart C_Crossed C_CarryError) (c__law_digit : Cal G 1 "_law_digit" 2 S_digit []) (c__law_plus : Cal G 1 "_law_plus" 2 S_plus []) (c__law_minus : Cal G 1 "_law_minus" 2 S_minus []) {f : Addr} {fd : FuncData} (F : L2.Fun G.K "_law_between" "_law_between" s__law_between f fd) (b : L2.Binds G.K fd ["pot", "s"] []) : Fnx G 2 f 2 S_between [] := by
  refine fnx_of F sc__law_between rfl b .nil rfl (fun cdv A outer s H FF hr tk => ⟨_, (pss_cons (ps_set (i := 2) sc__law_between.nd rfl (Or.inl rfl) (pe_ix ix_seq (pe_lst (pa_cons pe_int (pa_cons pe_int (pa_cons pe_int (pa_cons pe_int (pa_cons pe_int (pa_cons pe_int (pa_cons pe_int pa_nil)))))))) (pe_cl c__law_digit hr (by decide) tk rfl (pa_cons (pe_var (i := 0) rfl (Or.inl rfl) nd_pot.1 nd_pot.2) (pa_cons pe_int pa_nil))) (fun _ _ => rfl))) (pss_cons (ps_set (i := 3) sc__law_between.nd rfl (Or.inl rfl) (pe_cl c__law_minus hr (by decide) tk rfl (pa_cons (pe_ix ix_seq (pe_var (i := 1) rfl (Or.inl rfl) nd_s.1 nd_s.2) pe_int (fun _ _ => rfl)) (pa_cons (pe_ix ix_seq (pe_var (i := 1) rfl (Or.inl rfl) nd_s.1 nd_s.2) pe_int (fun _ _ => rfl)) pa_nil)))) (pss_one (ps_ret (pe_cl c__law_plus hr (by decide) tk rfl (pa_cons (pe_ix ix_seq (pe_var (i := 1) rfl (Or.inl rfl) nd_s.1 nd_s.2) pe_int (fun _ _ => rfl)) (pa_cons (pe_tup (pa_cons (pe_bin (os_mul hr tk) (pe_ix ix_seq (pe_var (i := 3) rfl (Or.inl rfl) nd_way.1 nd_way.2) pe_int (fun _ _ => rfl)) (pe_var (i := 2) rfl (Or.inl rfl) nd_sixths.1 nd_sixths.2)) (pa_cons (pe_bin (os_mul hr tk) (pe_ix ix_seq (pe_var (i := 3) rfl (Or.inl rfl) nd_way.1 nd_way.2) pe_int (fun _ _ => rfl)) pe_int) pa_nil))) pa_nil))))))), ?_⟩)
  rintro ds m K E - ⟨p, n, a, b, c, d, m0, rfl, hn, h, hm, k⟩
  show Ws _ _ _ [some (.ref p), some (.tup [pr a b, pr c d]), none, none] _ _
  dsimp only [cx_G, cx_K]
  walk_at "go_3"
  refine we_lst ?_
  walk_at "go_3"
  · decide
  · exact bd_lit (by decide)
  rename_i dg m1 d0 d1 hpm
  obtain ⟨s, hs, s0, s6⟩ := six d0 d1
  obtain ⟨f1, f2, f3, l1, l2⟩ := way h s0 s6
  refine w2_ixL ⟨hs, ?_⟩
  walk_at "go_3"
  · exact h.h.mono (by omega)
  · exact h.l.mono (by omega)
  · exact f1.bt.mulX (show Bd 3 s by unfold Bd; omega) (by omega)
  · exact f1.bb.mulX (show Bd 3 6 from bd_lit (by decide)) (by omega)
  · exact h.l.mono (by omega)
  · exact f2.mono (by omega)
  · exact k _ _ _ f3 l1 l2 ‹_›
end
end K06
set_option Elab.async false
set_option linter.all false
set_option maxRecDepth 100000
set_option maxHeartbeats 4000000
namespace K06
open PySem PySem.Spec L2 DL
open PyProof.Rows hiding St
/-! one step, by the goal's head -/

/-! Ratio and Span by numbers: their promises used -/


section
variable {G : Gx} {C_Ratio C_Span C_Apart C_Crossed C_CarryError : Addr}
local macro_rules | `(tactic| walk_at "useWe_1") => `(tactic| first | (with_reducible refine we_mt ?_) | (with_reducible refine we_ratQ ?_) | (with_reducible refine we_ratQ1 ?_) | (with_reducible refine we_spn ?_) | (with_reducible refine we_sta ?_) | fail)
local macro_rules | `(tactic| walk_at "sWe_1") => `(tactic| first
  | ((with_reducible refine we_var (d := ?d) ?hv ?hk); case hv => rfl)
  | (with_reducible first
    | refine we_cint ?_ | refine we_2 ?_ | refine we_fldF ?_ | refine we_cl0 ?_ | refine we_tup ?_ | refine we_1 ?_ | refine we_c2 ?_ | refine we_cbl ?_ | refine we_cnon ?_ | refine we_cty ?_ | refine we_cref ?_
    | refine we_op ?_ | refine we_andV ?_ | refine we_orV ?_ | refine we_notV ?_ | refine we_3 ?_ | refine we_ifx ?_ | refine we_cstr ?_ | refine we_clH ?_)
  | walk_at "useWe_1")
local macro_rules | `(tactic| walk_at "useW2_1") => `(tactic| first
  | (with_reducible refine w2_qeq (by assumption) (by decide) (by assumption) ?_) | (with_reducible refine w2_seq (by assumption) (by decide) (by assumption) ?_)
  | (with_reducible refine w2_seqQ (by assumption) (by decide) (by assumption) (by assumption) (by assumption) ?_) | (with_reducible refine w2_qeqS (by assumption) (by decide) (by assumption) (by assumption) (by assumption) ?_)
  | (with_reducible refine w2_seqL (by assumption) (by decide) (by assumption) (by constructor) ?_) | (with_reducible refine w2_seqR (by assumption) (by decide) (by assumption) (by constructor) ?_)
  | (with_reducible refine w2_addStr ?_ ?_) | (with_reducible refine w2_neSame ?_) | (with_reducible refine w2_eqSame ?_) | (with_reducible refine w2_eqHFI ?_) | (with_reducible refine w2_neHFI ?_)
  | (with_reducible refine w2_andO (by assumption) (by decide) .fixed .fixed ?_)
  | (with_reducible refine w2_addO (by assumption) (by decide) .fixed .fixed ?_) | (with_reducible refine w2_subO (by assumption) (by decide) .fixed .fixed ?_) | (with_reducible refine w2_mulO (by assumption) (by decide) .fixed .fixed ?_) | (with_reducible refine w1_negO (by assumption) (by decide) .fixed ?_) | (with_reducible refine w2_inO (by assumption) (by decide) .fixed ?_) | fail)
local macro_rules | `(tactic| walk_at "sW2_1") => `(tactic| first
  | (with_reducible first
    | refine w2_add ?_ | refine w2_sub ?_ | refine w2_mul ⟨?_, ?_⟩ | refine w2_fdiv ⟨?_, ?_⟩ | refine w2_mod ⟨?_, ?_⟩ | refine w2_pow ⟨?_, ?_⟩ | refine w2_eqI ?_ | refine w2_neI ?_ | refine w2_lt ?_ | refine w2_le ?_ | refine w2_gt ?_ | refine w2_ge ?_ | refine w2_eqFI ?_ | refine w2_neFI ?_)
  | ((with_reducible refine w2_ixT (d := ?d) ⟨?hv, ?hk⟩); case hv => rfl)
  | ((with_reducible refine w2_ixL (d := ?d) ⟨?hv, ?hk⟩); case hv => rfl)
  | ((with_reducible refine w2_ixM (d := ?d) .head ⟨?hv, ?hk⟩); case hv => rfl)
  | (with_reducible first
    | refine w2_eqIH ?_ | refine w2_neIH ?_ | refine w2_mulH ⟨?_, ?_⟩ | refine w2_addH ?_ | refine w2_subH ?_ | refine w2_isN ?_ | refine w2_notN ?_ | refine w2_isB ?_ | refine w2_notB ?_)
  | walk_at "useW2_1")
local macro_rules | `(tactic| walk_at "sWa_1") => `(tactic| with_reducible first | refine wa_nil ?_ | refine wa_cons ?_)
local macro_rules | `(tactic| walk_at "useWs_1") => `(tactic| first | (with_reducible refine ws_rs0 ?_) | (with_reducible refine ws_rs ?_) | fail)
local macro_rules | `(tactic| walk_at "sWs_1") => `(tactic| first
  | (with_reducible first | refine ws_seq ?_ | refine ws_ret ?_ | refine ws_asg ?_ | refine ws_next ?_ | refine ws_drop ?_ | refine ws_par ?_ | refine ws_par3 ?_ | refine ws_fldN ?_ | refine ws_brk ?_ | refine ws_cont ?_)
  | walk_at "useWs_1")
local macro_rules | `(tactic| walk_at "sWt_1") => `(tactic| with_reducible first | refine wt_test ?_ | refine wt_tr ?_ | refine wt_and ?_ | refine wt_or ?_ | refine wt_not ?_)
local macro_rules | `(tactic| walk_at "useWc_1") => `(tactic| with_reducible refine wc_isiC (.ins (by assumption)) (by assumption) ?_)
local macro_rules | `(tactic| walk_at "sWc_1") => `(tactic| first
  | (with_reducible first | refine wc_int ?_ | refine wc_abs ?_ | refine wc_min ?_ | refine wc_gcd ?_ | refine wc_isiT .int kit_ii ?_ | refine wc_isiT .int kit_ib ?_ | refine wc_len .lst ?_ | refine wc_len .tup ?_ | refine wc_strI ?_ ?_)
  | walk_at "useWc_1")
local macro_rules | `(tactic| walk_at "sWg_1") => `(tactic| with_reducible first | refine wg_name ?_ | refine wg_subM ?_ | refine wg_tup rfl ?_)
local macro_rules | `(tactic| walk_at "sW1_1") => `(tactic| first | (with_reducible refine w1_neg ?_) | walk_at "useW2_1")
local macro_rules | `(tactic| walk_at "sWgs_1") => `(tactic| with_reducible first | refine wgs_cons ?_ | refine wgs_nil ?_)
local macro_rules | `(tactic| walk_at "use_1") => `(tactic| first | (with_reducible refine use_digit ?_ ?_ (by assumption) fun dg m' d0 d1 hpm => ?_) | (with_reducible refine use_plus ?_ ?_ ?_) | (with_reducible refine use_minus ?_ ?_ ?_) | (with_reducible refine use_fraction (by assumption) fun t b m' fr hpm => ?_) | (with_reducible refine use_ends (by assumption) fun a b c d m' tw hpm => ?_) | (with_reducible refine use_between ?_ (by assumption) (by assumption) fun t n m' fr l1 l2 hpm => ?_) | fail)
local macro_rules | `(tactic| walk_at "sX_1") => `(tactic| first
  | (with_reducible refine ⟨_, rfl, ?_⟩)
  | (with_reducible refine fld_top (by assumption) ?_) | (with_reducible refine fld_bottom (by assumption) ?_)
  | (with_reducible refine ⟨_, .bl, ?_⟩)
  | ((with_reducible refine ⟨?h, ?_⟩); case h => rfl)
  | (with_reducible refine ⟨_, _, rfl, ?_⟩)
  | (with_reducible refine ⟨_, _, _, rfl, ?_⟩)
  | walk_at "use_1"
  | (with_reducible refine setN_top (by assumption) ?_) | (with_reducible refine setN_bottom (by assumption) ?_)
  | ((with_reducible refine ⟨_, _, _, ?j, _, rfl, rfl, .head, ?h, .head, ?_⟩); case h => rfl)
  | fail)
local macro_rules | `(tactic| walk_at "st_1") => `(tactic| first
  | ((with_reducible show We _ _ _ _ _ _); walk_at "sWe_1")
  | ((with_reducible show W2 _ _ _ _ _ _ _ _); walk_at "sW2_1")
  | ((with_reducible show Wa _ _ _ _ _ _); walk_at "sWa_1")
  | ((with_reducible show Ws _ _ _ _ _ _); walk_at "sWs_1")
  | ((with_reducible show Wt _ _ _ _ _ _); walk_at "sWt_1")
  | ((with_reducible show Wc _ _ _ _ _ _ _); walk_at "sWc_1")
  | ((with_reducible show Wg _ _ _ _ _ _ _); walk_at "sWg_1")
  | ((with_reducible show W1 _ _ _ _ _ _ _); walk_at "sW1_1")
  | ((with_reducible show Wgs _ _ _ _ _ _ _); walk_at "sWgs_1")
  | walk_at "sX_1" | fail)
local macro_rules | `(tactic| walk_at "wif_1") => `(tactic| (with_reducible refine ws_if ?_))
local macro_rules | `(tactic| walk_at "br_1") => `(tactic| ((with_reducible refine ⟨fun hb => ?_, fun hb => ?_⟩) <;> (try simp only [decide_eq_true_eq, decide_eq_false_iff_not, Bool.not_eq_true', Bool.not_eq_false', Bool.and_eq_true, Bool.or_eq_true, reduceCtorEq, List.length_map, Bool.not_true, Bool.not_false, DL.isNon, not_true_eq_false, not_false_eq_true, Classical.not_not, List.all_cons, List.all_nil, id_eq, Bool.and_self, Bool.true_and, decide_true, decide_false] at hb)))
local macro_rules | `(tactic| walk_at "go_1") => `(tactic| repeat' (first | walk_at "st_1" | walk_at "wif_1" | walk_at "br_1" | fail))
abbrev b4 (a b c d : Int) : D := .tup [pr a b, pr c d]
def S_second : SpecD := fun ds m K _ => ∃ p a b c d e f m0, ds = [.ref p, b4 a b c d, pr e f] ∧ Two2 82 a b c d ∧ Fr 41 e f ∧ 0 ≤ e ∧ PotM p m0 m ∧ ∀ a b c d m', Two2 292 a b c d → PotM p m0 m' → K (b4 a b c d) m'
theorem use_second {p : Addr} {a b c d e f : Int} {m m0 : Mu} {K : KT} {E : Ex → Mu → Prop} (h : Two2 82 a b c d) (h2 : Fr 41 e f) (h3 : 0 ≤ e) (hm : PotM p m0 m) (k : ∀ a b c d m', Two2 292 a b c d → PotM p m0 m' → K (b4 a b c d) m') : S_second [.ref p, b4 a b c d, pr e f] m K E := ⟨p, a, b, c, d, e, f, m0, rfl, h, h2, h3, hm, k⟩
theorem ok_second (T : Txt G C_Ratio C_Span C_Apart C_Crossed C_CarryError) (c__law_digit : Cal G 1 "_law_digit" 2 S_digit []) (c__law_fraction : Cal G 2 "_law_fraction" 1 S_fraction []) (c__law_plus : Cal G 1 "_law_plus" 2 S_plus []) (c__law_minus : Cal G 1 "_law_minus" 2 S_minus []) (c__law_ends : Cal G 3 "_law_ends" 1 S_ends []) (c__law_between : Cal G 2 "_law_between" 2 S_between []) {f : Addr} {fd : FuncData} (F : L2.Fun G.K "_law_second" "_law_second" s__law_second f fd) (b : L2.Binds G.K fd ["pot", "s", "step"] []) : Fnx G 4 f 3 S_second [] := by
  refine fnx_of F sc__law_second rfl b .nil rfl (fun cdv A outer s H FF hr tk => ⟨_, (pss_cons (ps_set (i := 3) sc__law_second.nd rfl (Or.inl rfl) (pe_cl c__law_digit hr (by decide) tk rfl (pa_cons (pe_var (i := 0) rfl (Or.inl rfl) nd_pot.1 nd_pot.2) (pa_cons pe_int pa_nil)))) (pss_cons (ps_if (pt_cm (os_eqF hr tk) (pe_var (i := 3) rfl (Or.inl rfl) nd_kind.1 nd_kind.2) pe_int (nomark _)) (pss_one (ps_ret (pe_var (i := 1) rfl (Or.inl rfl) nd_s.1 nd_s.2))) pss_nil) (pss_cons (ps_if (pt_cm (os_eqF hr tk) (pe_var (i := 3) rfl (Or.inl rfl) nd_kind.1 nd_kind.2) pe_int (nomark _)) (pss_one (ps_ret (pe_cl c__law_ends hr (by decide) tk rfl (pa_cons (pe_var (i := 0) rfl (Or.inl rfl) nd_pot.1 nd_pot.2) pa_nil)))) pss_nil) (pss_cons (ps_set (i := 4) sc__law_second.nd rfl (Or.inl rfl) (pe_cl c__law_fraction hr (by decide) tk rfl (pa_cons (pe_var (i := 0) rfl (Or.inl rfl) nd_pot.1 nd_pot.2) pa_nil))) (pss_cons (ps_set (i := 4) sc__law_second.nd rfl (Or.inl rfl) (pe_tup (pa_cons (pe_cb cs_abs rfl T.n_abs bt_abs (pa_cons (pe_ix ix_seq (pe_var (i := 4) rfl (Or.inl rfl) nd_q.1 nd_q.2) pe_int (fun _ _ => rfl)) pa_nil)) (pa_cons (pe_ix ix_seq (pe_var (i := 4) rfl (Or.inl rfl) nd_q.1 nd_q.2) pe_int (fun _ _ => rfl)) pa_nil)))) (pss_cons (ps_if (pt_cm (os_eqF hr tk) (pe_var (i := 3) rfl (Or.inl rfl) nd_kind.1 nd_kind.2) pe_int (nomark _)) (pss_one (ps_ret (pe_tup (pa_cons (pe_cl c__law_minus hr (by decide) tk rfl (pa_cons (pe_ix ix_seq (pe_var (i := 1) rfl (Or.inl rfl) nd_s.1 nd_s.2) pe_int (fun _ _ => rfl)) (pa_cons (pe_var (i := 4) rfl (Or.inl rfl) nd_q.1 nd_q.2) pa_nil))) (pa_cons (pe_ix ix_seq (pe_var (i := 1) rfl (Or.inl rfl) nd_s.1 nd_s.2) pe_int (fun _ _ => rfl)) pa_nil))))) pss_nil) (pss_cons (ps_if (pt_cm (os_eqF hr tk) (pe_var (i := 3) rfl (Or.inl rfl) nd_kind.1 nd_kind.2) pe_int (nomark _)) (pss_cons (ps_set (i := 5) sc__law_second.nd rfl (Or.inl rfl) (pe_cl c__law_plus hr (by decide) tk rfl (pa_cons (pe_ix ix_seq (pe_var (i := 1) rfl (Or.inl rfl) nd_s.1 nd_s.2) pe_int (fun _ _ => rfl)) (pa_cons (pe_var (i := 2) rfl (Or.inl rfl) nd_step.1 nd_step.2) pa_nil)))) (pss_one (ps_ret (pe_tup (pa_cons (pe_var (i := 5) rfl (Or.inl rfl) nd_low.1 nd_low.2) (pa_cons (pe_cl c__law_plus hr (by decide) tk rfl (pa_cons (pe_var (i := 5) rfl (Or.inl rfl) nd_low.1 nd_low.2) (pa_cons (pe_var (i := 4) rfl (Or.inl rfl) nd_q.1 nd_q.2) pa_nil))) pa_nil)))))) pss_nil) (pss_cons (ps_set (i := 6) sc__law_second.nd rfl (Or.inl rfl) (pe_cl c__law_between hr (by decide) tk rfl (pa_cons (pe_var (i := 0) rfl (Or.inl rfl) nd_pot.1 nd_pot.2) (pa_cons (pe_var (i := 1) rfl (Or.inl rfl) nd_s.1 nd_s.2) pa_nil)))) (pss_cons (ps_if (pt_cm (os_eqF hr tk) (pe_var (i := 3) rfl (Or.inl rfl) nd_kind.1 nd_kind.2) pe_int (nomark _)) (pss_one (ps_ret (pe_tup (pa_cons (pe_var (i := 6) rfl (Or.inl rfl) nd_x.1 nd_x.2) (pa_cons (pe_cl c__law_plus hr (by decide) tk rfl (pa_cons (pe_var (i := 6) rfl (Or.inl rfl) nd_x.1 nd_x.2) (pa_cons (pe_var (i := 4) rfl (Or.inl rfl) nd_q.1 nd_q.2) pa_nil))) pa_nil))))) pss_nil) (pss_cons (ps_if (pt_cm (os_eqF hr tk) (pe_var (i := 3) rfl (Or.inl rfl) nd_kind.1 nd_kind.2) pe_int (nomark _)) (pss_one (ps_ret (pe_tup (pa_cons (pe_var (i := 6) rfl (Or.inl rfl) nd_x.1 nd_x.2) (pa_cons (pe_var (i := 6) rfl (Or.inl rfl) nd_x.1 nd_x.2) pa_nil))))) pss_nil) (pss_one (ps_ret (pe_tup (pa_cons (pe_ix ix_seq (pe_var (i := 1) rfl (Or.inl rfl) nd_s.1 nd_s.2) pe_int (fun _ _ => rfl)) (pa_cons (pe_cl c__law_plus hr (by decide) tk rfl (pa_cons (pe_ix ix_seq (pe_var (i := 1) rfl (Or.inl rfl) nd_s.1 nd_s.2) pe_int (fun _ _ => rfl)) (pa_cons (pe_var (i := 4) rfl (Or.inl rfl) nd_q.1 nd_q.2) pa_nil))) pa_nil))))))))))))))), ?_⟩)
  rintro ds m K E - ⟨p, a, b, c, d, e, f, m0, rfl, h, h2, h3, hm, k⟩
  show Ws _ _ _ [some (.ref p), some (b4 a b c d), some (pr e f), none, none, none, none] _ _
  dsimp only [cx_G, cx_K]
  have k3 : ∀ {m'}, PotM p m0 m' → K (b4 a b c d) m' := fun q => k _ _ _ _ _ ⟨h.l.mono (by decide), h.h.mono (by decide), h.le⟩ q
  have k1 : ∀ {a b c d m'}, Two2 82 a b c d → PotM p m0 m' → K (b4 a b c d) m' := fun h q => k _ _ _ _ _ ⟨h.l.mono (by decide), h.h.mono (by decide), h.le⟩ q
  have k2 : ∀ {x y m'}, Fr 40 x y → PotM p m0 m' → K (b4 (a * y - (x.natAbs : Int) * b) (b * y) a b) m' := fun h1 q => k _ _ _ _ _ ⟨(h.l.minus h1.abs).mono (by decide), h.l.mono (by decide), dn_minus h.l h1⟩ q
  have lo : Fr 124 (c * f + e * d) (d * f) := (h.h.plus h2).mono (by decide)
  have k4 : ∀ {x y m'}, Fr 40 x y → PotM p m0 m' → K (b4 (c * f + e * d) (d * f) ((c * f + e * d) * y + (x.natAbs : Int) * (d * f)) (d * f * y)) m' := fun h1 q => k _ _ _ _ _ ⟨lo.mono (by decide), (lo.plus h1.abs).mono (by decide), up_plus lo h1⟩ q
  have k5 : ∀ {t n x y m'}, Fr (3 * 82 + 5) t n → Fr 40 x y → PotM p m0 m' → K (b4 t n (t * y + (x.natAbs : Int) * n) (n * y)) m' := fun h0 h1 q => k _ _ _ _ _ ⟨h0.mono (by decide), (h0.plus h1.abs).mono (by decide), up_plus h0 h1⟩ q
  have k6 : ∀ {t n m'}, Fr (3 * 82 + 5) t n → PotM p m0 m' → K (b4 t n t n) m' := fun h0 q => k _ _ _ _ _ ⟨h0.mono (by decide), h0.mono (by decide), Rat.le_refl⟩ q
  have k0 : ∀ {x y m'}, Fr 40 x y → PotM p m0 m' → K (b4 c d (c * y + (x.natAbs : Int) * d) (d * y)) m' := fun h1 q => k _ _ _ _ _ ⟨h.h.mono (by decide), (h.h.plus h1.abs).mono (by decide), up_plus h.h h1⟩ q
  walk_at "go_1"
  all_goals first
    | decide
    | exact bd_lit (by decide)
    | exact h.l.mono (by decide)
    | exact h.h.mono (by decide)
    | exact h2.mono (by decide)
    | exact lo.mono (by decide)
    | exact Fr.mono ‹Fr (3 * 82 + 5) _ _› (by decide)
    | exact (Fr.abs ‹_›).mono (by decide)
    | exact k3 ‹_›
    | exact k1 ‹_› ‹_›
    | exact k2 ‹_› ‹_›
    | exact k4 ‹_› ‹_›
    | exact k5 ‹_› ‹_› ‹_›
    | exact k6 ‹_› ‹_›
    | exact k0 ‹_› ‹_›
    | skip
def S_lowest : SpecD := fun ds m K _ => ∃ a b, ds = [pr a b] ∧ Fr 1000 a b ∧ K (pr (dv a b).num ((dv a b).den : Int)) m
theorem use_lowest {a b : Int} {m : Mu} {K : KT} {E : Ex → Mu → Prop} (h1 : Fr 1000 a b) (h : K (pr (dv a b).num ((dv a b).den : Int)) m) : S_lowest [pr a b] m K E := ⟨a, b, rfl, h1, h⟩
local macro_rules | `(tactic| walk_at "useWe_2") => `(tactic| first | (with_reducible refine we_mt ?_) | (with_reducible refine we_ratQ ?_) | (with_reducible refine we_ratQ1 ?_) | (with_reducible refine we_spn ?_) | (with_reducible refine we_sta ?_) | fail)
local macro_rules | `(tactic| walk_at "sWe_2") => `(tactic| first
  | ((with_reducible refine we_var (d := ?d) ?hv ?hk); case hv => rfl)
  | (with_reducible first
    | refine we_cint ?_ | refine we_2 ?_ | refine we_fldF ?_ | refine we_cl0 ?_ | refine we_tup ?_ | refine we_1 ?_ | refine we_c2 ?_ | refine we_cbl ?_ | refine we_cnon ?_ | refine we_cty ?_ | refine we_cref ?_
    | refine we_op ?_ | refine we_andV ?_ | refine we_orV ?_ | refine we_notV ?_ | refine we_3 ?_ | refine we_ifx ?_ | refine we_cstr ?_ | refine we_clH ?_)
  | walk_at "useWe_2")
local macro_rules | `(tactic| walk_at "useW2_2") => `(tactic| first
  | (with_reducible refine w2_qeq (by assumption) (by decide) (by assumption) ?_) | (with_reducible refine w2_seq (by assumption) (by decide) (by assumption) ?_)
  | (with_reducible refine w2_seqQ (by assumption) (by decide) (by assumption) (by assumption) (by assumption) ?_) | (with_reducible refine w2_qeqS (by assumption) (by decide) (by assumption) (by assumption) (by assumption) ?_)
  | (with_reducible refine w2_seqL (by assumption) (by decide) (by assumption) (by constructor) ?_) | (with_reducible refine w2_seqR (by assumption) (by decide) (by assumption) (by constructor) ?_)
  | (with_reducible refine w2_addStr ?_ ?_) | (with_reducible refine w2_neSame ?_) | (with_reducible refine w2_eqSame ?_) | (with_reducible refine w2_eqHFI ?_) | (with_reducible refine w2_neHFI ?_)
  | (with_reducible refine w2_andO (by assumption) (by decide) .fixed .fixed ?_)
  | (with_reducible refine w2_addO (by assumption) (by decide) .fixed .fixed ?_) | (with_reducible refine w2_subO (by assumption) (by decide) .fixed .fixed ?_) | (with_reducible refine w2_mulO (by assumption) (by decide) .fixed .fixed ?_) | (with_reducible refine w1_negO (by assumption) (by decide) .fixed ?_) | (with_reducible refine w2_inO (by assumption) (by decide) .fixed ?_) | fail)
local macro_rules | `(tactic| walk_at "sW2_2") => `(tactic| first
  | (with_reducible first
    | refine w2_add ?_ | refine w2_sub ?_ | refine w2_mul ⟨?_, ?_⟩ | refine w2_fdiv ⟨?_, ?_⟩ | refine w2_mod ⟨?_, ?_⟩ | refine w2_pow ⟨?_, ?_⟩ | refine w2_eqI ?_ | refine w2_neI ?_ | refine w2_lt ?_ | refine w2_le ?_ | refine w2_gt ?_ | refine w2_ge ?_ | refine w2_eqFI ?_ | refine w2_neFI ?_)
  | ((with_reducible refine w2_ixT (d := ?d) ⟨?hv, ?hk⟩); case hv => rfl)
  | ((with_reducible refine w2_ixL (d := ?d) ⟨?hv, ?hk⟩); case hv => rfl)
  | ((with_reducible refine w2_ixM (d := ?d) .head ⟨?hv, ?hk⟩); case hv => rfl)
  | (with_reducible first
    | refine w2_eqIH ?_ | refine w2_neIH ?_ | refine w2_mulH ⟨?_, ?_⟩ | refine w2_addH ?_ | refine w2_subH ?_ | refine w2_isN ?_ | refine w2_notN ?_ | refine w2_isB ?_ | refine w2_notB ?_)
  | walk_at "useW2_2")
local macro_rules | `(tactic| walk_at "sWa_2") => `(tactic| with_reducible first | refine wa_nil ?_ | refine wa_cons ?_)
local macro_rules | `(tactic| walk_at "useWs_2") => `(tactic| first | (with_reducible refine ws_rs0 ?_) | (with_reducible refine ws_rs ?_) | fail)
local macro_rules | `(tactic| walk_at "sWs_2") => `(tactic| first
  | (with_reducible first | refine ws_seq ?_ | refine ws_ret ?_ | refine ws_asg ?_ | refine ws_next ?_ | refine ws_drop ?_ | refine ws_par ?_ | refine ws_par3 ?_ | refine ws_fldN ?_ | refine ws_brk ?_ | refine ws_cont ?_)
  | walk_at "useWs_2")
local macro_rules | `(tactic| walk_at "sWt_2") => `(tactic| with_reducible first | refine wt_test ?_ | refine wt_tr ?_ | refine wt_and ?_ | refine wt_or ?_ | refine wt_not ?_)
local macro_rules | `(tactic| walk_at "useWc_2") => `(tactic| with_reducible refine wc_isiC (.ins (by assumption)) (by assumption) ?_)
local macro_rules | `(tactic| walk_at "sWc_2") => `(tactic| first
  | (with_reducible first | refine wc_int ?_ | refine wc_abs ?_ | refine wc_min ?_ | refine wc_gcd ?_ | refine wc_isiT .int kit_ii ?_ | refine wc_isiT .int kit_ib ?_ | refine wc_len .lst ?_ | refine wc_len .tup ?_ | refine wc_strI ?_ ?_)
  | walk_at "useWc_2")
local macro_rules | `(tactic| walk_at "sWg_2") => `(tactic| with_reducible first | refine wg_name ?_ | refine wg_subM ?_ | refine wg_tup rfl ?_)
local macro_rules | `(tactic| walk_at "sW1_2") => `(tactic| first | (with_reducible refine w1_neg ?_) | walk_at "useW2_2")
local macro_rules | `(tactic| walk_at "sWgs_2") => `(tactic| with_reducible first | refine wgs_cons ?_ | refine wgs_nil ?_)
local macro_rules | `(tactic| walk_at "useq_2") => `(tactic| first
  | (with_reducible refine fld_low (by assumption) ?_) | (with_reducible refine fld_high (by assumption) ?_)
  | (with_reducible refine mt_of0 (by assumption) (by decide) ?_) | (with_reducible refine RatQ.mk ?_ ?_ ?_)
  | (with_reducible refine use_qcmp ?_ ?_ ?_) | (with_reducible refine use_qsign ?_) | (with_reducible refine use_qdown ?_ ?_) | (with_reducible refine use_qup ?_ ?_)
  | (with_reducible refine use_qleast ?_ ?_ ?_) | (with_reducible refine use_qgreat ?_ ?_ ?_)
  | (with_reducible refine use_qadd ?_ ?_ ?_) | (with_reducible refine use_qsub ?_ ?_ ?_) | (with_reducible refine use_qmul ?_ ?_ ?_) | (with_reducible refine use_qdiv ?_ ?_ ?_ ?_) | (with_reducible refine use_qneg ?_ ?_)
  | (with_reducible refine SpnA.mk ?_ ?_ ?_ ?_)
  | (with_reducible refine use_s2 ?_ ?_) | (with_reducible refine use_sneg ?_ ?_ ?_ ?_) | (with_reducible refine use_scont ?_ ?_ ?_ ?_) | (with_reducible refine use_sdiv ?_ ?_ ?_)
  | (with_reducible refine setN_low (by assumption) ?_) | (with_reducible refine setN_high (by assumption) ?_)
  | fail)
local macro_rules | `(tactic| walk_at "useq3_2") => `(tactic| first
  | (with_reducible refine use_sand ?_ ?_ ?_ ?_ ?_ ?_) | (with_reducible refine use_satm ?_ ?_ ?_ ?_ ?_) | (with_reducible refine use_slen ?_ ?_ ?_) | (with_reducible refine use_spoint ?_ ?_) | (with_reducible refine use_qtext ?_ ?_) | (with_reducible refine use_stext ?_ ?_ ?_) | (with_reducible refine SpnX.mk ?_ ?_ ?_ ?_) | walk_at "useq_2")
local macro_rules | `(tactic| walk_at "use_2") => `(tactic| first | (with_reducible refine use_lowest ?_ ?_) | walk_at "useq3_2" | fail)
local macro_rules | `(tactic| walk_at "sX_2") => `(tactic| first
  | (with_reducible refine ⟨_, rfl, ?_⟩)
  | (with_reducible refine fld_top (by assumption) ?_) | (with_reducible refine fld_bottom (by assumption) ?_)
  | (with_reducible refine ⟨_, .bl, ?_⟩)
  | ((with_reducible refine ⟨?h, ?_⟩); case h => rfl)
  | (with_reducible refine ⟨_, _, rfl, ?_⟩)
  | (with_reducible refine ⟨_, _, _, rfl, ?_⟩)
  | walk_at "use_2"
  | (with_reducible refine setN_top (by assumption) ?_) | (with_reducible refine setN_bottom (by assumption) ?_)
  | ((with_reducible refine ⟨_, _, _, ?j, _, rfl, rfl, .head, ?h, .head, ?_⟩); case h => rfl)
  | fail)
local macro_rules | `(tactic| walk_at "st_2") => `(tactic| first
  | ((with_reducible show We _ _ _ _ _ _); walk_at "sWe_2")
  | ((with_reducible show W2 _ _ _ _ _ _ _ _); walk_at "sW2_2")
  | ((with_reducible show Wa _ _ _ _ _ _); walk_at "sWa_2")
  | ((with_reducible show Ws _ _ _ _ _ _); walk_at "sWs_2")
  | ((with_reducible show Wt _ _ _ _ _ _); walk_at "sWt_2")
  | ((with_reducible show Wc _ _ _ _ _ _ _); walk_at "sWc_2")
  | ((with_reducible show Wg _ _ _ _ _ _ _); walk_at "sWg_2")
  | ((with_reducible show W1 _ _ _ _ _ _ _); walk_at "sW1_2")
  | ((with_reducible show Wgs _ _ _ _ _ _ _); walk_at "sWgs_2")
  | walk_at "sX_2" | fail)
local macro_rules | `(tactic| walk_at "wif_2") => `(tactic| (with_reducible refine ws_if ?_))
local macro_rules | `(tactic| walk_at "br_2") => `(tactic| ((with_reducible refine ⟨fun hb => ?_, fun hb => ?_⟩) <;> (try simp only [decide_eq_true_eq, decide_eq_false_iff_not, Bool.not_eq_true', Bool.not_eq_false', Bool.and_eq_true, Bool.or_eq_true, reduceCtorEq, List.length_map, Bool.not_true, Bool.not_false, DL.isNon, not_true_eq_false, not_false_eq_true, Classical.not_not, List.all_cons, List.all_nil, id_eq, Bool.and_self, Bool.true_and, decide_true, decide_false] at hb)))
local macro_rules | `(tactic| walk_at "go_2") => `(tactic| repeat' (first | walk_at "st_2" | walk_at "wif_2" | walk_at "br_2" | fail))
local macro_rules | `(tactic| walk_at "dl_2") => `(tactic| repeat (first | walk_at "st_2" | walk_at "wif_2" | fail))
theorem ok_lowest (T : Txt G C_Ratio C_Span C_Apart C_Crossed C_CarryError) {f : Addr} {fd : FuncData} (F : L2.Fun G.K "_law_lowest" "_law_lowest" s__law_lowest f fd) (b : L2.Binds G.K fd ["p"] []) : Fnx G 1 f 1 S_lowest [] := by
  refine fnx_of F sc__law_lowest rfl b .nil rfl (fun cdv A outer s H FF hr tk => ⟨_, (pss_cons (ps_set (i := 1) sc__law_lowest.nd rfl (Or.inl rfl) (pe_cb cs_abs rfl T.n_abs bt_abs (pa_cons (pe_ix ix_seq (pe_var (i := 0) rfl (Or.inl rfl) nd_p.1 nd_p.2) pe_int (fun _ _ => rfl)) pa_nil))) (pss_cons (ps_set (i := 2) sc__law_lowest.nd rfl (Or.inl rfl) (pe_ix ix_seq (pe_var (i := 0) rfl (Or.inl rfl) nd_p.1 nd_p.2) pe_int (fun _ _ => rfl))) (pss_cons (ps_for (passes_of rfl) rfl (pi_range1 rfl T.n_range (pa_cons pe_int pa_nil)) (pg_name (i := 3) sc__law_lowest.nd rfl (Or.inl rfl)) (pss_cons (ps_if (pt_cm (os_eqF hr tk) (pe_var (i := 2) rfl (Or.inl rfl) nd_v.1 nd_v.2) pe_int (nomark _)) (pss_one ps_break) pss_nil) (pss_cons (ps_set (i := 4) sc__law_lowest.nd rfl (Or.inl rfl) (pe_bin os_mod (pe_ct cs_int rfl T.n_int bt_int (pa_cons (pe_var (i := 1) rfl (Or.inl rfl) nd_u.1 nd_u.2) pa_nil)) (pe_var (i := 2) rfl (Or.inl rfl) nd_v.1 nd_v.2))) (pss_cons (ps_set (i := 1) sc__law_lowest.nd rfl (Or.inl rfl) (pe_var (i := 2) rfl (Or.inl rfl) nd_v.1 nd_v.2)) (pss_one (ps_set (i := 2) sc__law_lowest.nd rfl (Or.inl rfl) (pe_var (i := 4) rfl (Or.inl rfl) nd_rest.1 nd_rest.2))))))) (pss_one (ps_ret (pe_tup (pa_cons (pe_bin os_fdiv (pe_ix ix_seq (pe_var (i := 0) rfl (Or.inl rfl) nd_p.1 nd_p.2) pe_int (fun _ _ => rfl)) (pe_var (i := 1) rfl (Or.inl rfl) nd_u.1 nd_u.2)) (pa_cons (pe_bin os_fdiv (pe_ix ix_seq (pe_var (i := 0) rfl (Or.inl rfl) nd_p.1 nd_p.2) pe_int (fun _ _ => rfl)) (pe_var (i := 1) rfl (Or.inl rfl) nd_u.1 nd_u.2)) pa_nil)))))))), ?_⟩)
  rintro ds m K E - ⟨a, b, rfl, h1, k⟩
  show Ws _ _ _ [some (pr a b), none, none, none, none] _ _
  try dsimp only [cx_G, cx_K]
  have ee := rT_dv (t := a) (b := b) (by have := h1.pos; omega)
  walk_at "go_2"
  refine ws_range1 ?_
  walk_at "dl_2"
  refine ⟨1500, fun i r' m' => m' = m ∧ ∃ (u v : Nat) (o1 o2 : Option D), r' = [some (pr a b), some (.int u), some (.int v), o1, o2] ∧ Nat.gcd u v = Nat.gcd a.natAbs b.natAbs ∧ EuF b.natAbs i u v, rfl, by decide, ?_, ?_, ?_⟩
  · have e : b = ((b.natAbs : Nat) : Int) := by have := h1.pos; omega
    refine ⟨rfl, a.natAbs, b.natAbs, _, _, by rw [← e]; rfl, rfl, .inl ⟨rfl, rfl⟩⟩
  · rintro n r' m' hn ⟨rfl, u, v, o1, o2, rfl, hg, he⟩
    have gz : v = 0 → (u : Int) = gc a b := fun h => by
      rw [h, Nat.gcd_zero_right] at hg
      rw [hg]
      rfl
    have gp := gc_pos (t := a) (b := b) (by have := h1.pos; omega)
    have gb : Bd 1000 (gc a b) := gc_bd (by have := h1.pos; omega) h1.bb
    have q1 : a.fdiv (gc a b) = (dv a b).num := by
      rw [← ee.1, fdiv_pos gp]
      unfold rT
      rw [if_neg (by have := h1.pos; omega)]
    have q2 : b.fdiv (gc a b) = ((dv a b).den : Int) := by
      rw [← ee.2, fdiv_pos gp]
      unfold rB
      rw [if_neg (by have := h1.pos; omega)]
    have dx : ∀ z, CDivX z (gc a b) := fun z => gb.divX (by omega) (by decide)
    have uz : (v : Int) = 0 → (u : Int) = gc a b := fun h => gz (Int.natCast_eq_zero.mp h)
    walk_at "go_2"
    · rw [uz ‹_›]
      exact dx _
    · rw [uz ‹_›]
      exact dx _
    · rw [uz ‹_›, q1, q2]
      exact k
    · exact ‹¬ _›
    · have hy : 0 < v := by omega
      have e : ((u : Int).fmod (v : Int)) = ((u % v : Nat) : Int) := by
        rw [Int.fmod_eq_emod_of_nonneg _ (by omega)]
        exact (Int.natCast_emod u v).symm
      rw [e]
      refine ⟨v, u % v, _, _, rfl, ?_, he.step hy⟩
      rw [← hg, Nat.gcd_comm u v, Nat.gcd_rec v u, Nat.gcd_comm]
  · rintro r' m' ⟨rfl, u, v, o1, o2, rfl, hg, he⟩
    exact (he.early h1.bb).elim
theorem okH_lowest (T : Txt G C_Ratio C_Span C_Apart C_Crossed C_CarryError) {f : Addr} {fd : FuncData} (F : L2.Fun G.K "_law_lowest" "_law_lowest" s__law_lowest f fd) (hm : G.mg "_law_lowest" = some (.ref f)) (b : L2.Binds G.K fd ["p"] []) : CalH G 1 "_law_lowest" 1 S_lowest := by
  refine calH_of F hm sc__law_lowest rfl b (fun cdv A outer s H FF p hot hr tk => ⟨_, (pss_cons (ps_set (i := 1) sc__law_lowest.nd rfl (Or.inl rfl) (pe_cb cs_abs rfl T.n_abs bt_abs (pa_cons (pe_ix ix_seq (pe_var (i := 0) rfl (Or.inl rfl) nd_p.1 nd_p.2) pe_int (fun _ _ => rfl)) pa_nil))) (pss_cons (ps_set (i := 2) sc__law_lowest.nd rfl (Or.inl rfl) (pe_ix ix_seq (pe_var (i := 0) rfl (Or.inl rfl) nd_p.1 nd_p.2) pe_int (fun _ _ => rfl))) (pss_cons (L2H.ps_forH (passes_of rfl) ⟨p, hot, List.mem_cons_self⟩ (L2H.pi_range1H rfl T.n_range (pa_cons pe_int pa_nil)) (pg_name (i := 3) sc__law_lowest.nd rfl (Or.inl rfl)) (pss_cons (ps_if (pt_cm (os_eqHF hr) (pe_var (i := 2) rfl (Or.inl rfl) nd_v.1 nd_v.2) pe_int (nomark _)) (pss_one ps_break) pss_nil) (pss_cons (ps_set (i := 4) sc__law_lowest.nd rfl (Or.inl rfl) (pe_bin os_mod (pe_ct cs_int rfl T.n_int bt_int (pa_cons (pe_var (i := 1) rfl (Or.inl rfl) nd_u.1 nd_u.2) pa_nil)) (pe_var (i := 2) rfl (Or.inl rfl) nd_v.1 nd_v.2))) (pss_cons (ps_set (i := 1) sc__law_lowest.nd rfl (Or.inl rfl) (pe_var (i := 2) rfl (Or.inl rfl) nd_v.1 nd_v.2)) (pss_one (ps_set (i := 2) sc__law_lowest.nd rfl (Or.inl rfl) (pe_var (i := 4) rfl (Or.inl rfl) nd_rest.1 nd_rest.2))))))) (pss_one (ps_ret (pe_tup (pa_cons (pe_bin os_fdiv (pe_ix ix_seq (pe_var (i := 0) rfl (Or.inl rfl) nd_p.1 nd_p.2) pe_int (fun _ _ => rfl)) (pe_var (i := 1) rfl (Or.inl rfl) nd_u.1 nd_u.2)) (pa_cons (pe_bin os_fdiv (pe_ix ix_seq (pe_var (i := 0) rfl (Or.inl rfl) nd_p.1 nd_p.2) pe_int (fun _ _ => rfl)) (pe_var (i := 1) rfl (Or.inl rfl) nd_u.1 nd_u.2)) pa_nil)))))))), ?_⟩)
  rintro ds m K E - ⟨a, b, rfl, h1, k⟩
  show Ws _ _ _ [some (pr a b), none, none, none, none] _ _
  try dsimp only [cxH_G, cxH_K]
  have ee := rT_dv (t := a) (b := b) (by have := h1.pos; omega)
  walk_at "go_2"
  refine ws_range1 ?_
  walk_at "dl_2"
  refine ⟨1500, fun i r' m' => m' = m ∧ ∃ (u v : Nat) (o1 o2 : Option D), r' = [some (pr a b), some (.int u), some (.int v), o1, o2] ∧ Nat.gcd u v = Nat.gcd a.natAbs b.natAbs ∧ EuF b.natAbs i u v, rfl, by decide, ?_, ?_, ?_⟩
  · have e : b = ((b.natAbs : Nat) : Int) := by have := h1.pos; omega
    refine ⟨rfl, a.natAbs, b.natAbs, _, _, by rw [← e]; rfl, rfl, .inl ⟨rfl, rfl⟩⟩
  · rintro n r' m' hn ⟨rfl, u, v, o1, o2, rfl, hg, he⟩
    have gz : v = 0 → (u : Int) = gc a b := fun h => by
      rw [h, Nat.gcd_zero_right] at hg
      rw [hg]
      rfl
    have gp := gc_pos (t := a) (b := b) (by have := h1.pos; omega)
    have gb : Bd 1000 (gc a b) := gc_bd (by have := h1.pos; omega) h1.bb
    have q1 : a.fdiv (gc a b) = (dv a b).num := by
      rw [← ee.1, fdiv_pos gp]
      unfold rT
      rw [if_neg (by have := h1.pos; omega)]
    have q2 : b.fdiv (gc a b) = ((dv a b).den : Int) := by
      rw [← ee.2, fdiv_pos gp]
      unfold rB
      rw [if_neg (by have := h1.pos; omega)]
    have dx : ∀ z, CDivX z (gc a b) := fun z => gb.divX (by omega) (by decide)
    have uz : (v : Int) = 0 → (u : Int) = gc a b := fun h => gz (Int.natCast_eq_zero.mp h)
    walk_at "go_2"
    · rw [uz ‹_›]
      exact dx _
    · rw [uz ‹_›]
      exact dx _
    · rw [uz ‹_›, q1, q2]
      exact k
    · exact ‹¬ _›
    · have hy : 0 < v := by omega
      have e : ((u : Int).fmod (v : Int)) = ((u % v : Nat) : Int) := by
        rw [Int.fmod_eq_emod_of_nonneg _ (by omega)]
        exact (Int.natCast_emod u v).symm
      rw [e]
      refine ⟨v, u % v, _, _, rfl, ?_, he.step hy⟩
      rw [← hg, Nat.gcd_comm u v, Nat.gcd_rec v u, Nat.gcd_comm]
  · rintro r' m' ⟨rfl, u, v, o1, o2, rfl, hg, he⟩
    exact (he.early h1.bb).elim
def S_written : SpecD := fun ds m K _ => ∃ a b, ds = [pr a b] ∧ Fr 1000 a b ∧ K (.str (qtext (dv a b))) m
theorem use_written {a b : Int} {m : Mu} {K : KT} {E : Ex → Mu → Prop} (h1 : Fr 1000 a b) (h : K (.str (qtext (dv a b))) m) : S_written [pr a b] m K E := ⟨a, b, rfl, h1, h⟩
theorem ok_written (T : Txt G C_Ratio C_Span C_Apart C_Crossed C_CarryError) (c__law_lowest : Cal G 1 "_law_lowest" 1 S_lowest []) {f : Addr} {fd : FuncData} (F : L2.Fun G.K "_law_written" "_law_written" s__law_written f fd) (b : L2.Binds G.K fd ["p"] []) : Fnx G 2 f 1 S_written [] := by
  refine fnx_of F sc__law_written rfl b .nil rfl (fun cdv A outer s H FF hr tk => ⟨_, (pss_cons (ps_set (i := 0) sc__law_written.nd rfl (Or.inl rfl) (pe_cl c__law_lowest hr (by decide) tk rfl (pa_cons (pe_var (i := 0) rfl (Or.inl rfl) nd_p.1 nd_p.2) pa_nil))) (pss_cons (ps_if (pt_cm (os_eqF hr tk) (pe_ix ix_seq (pe_var (i := 0) rfl (Or.inl rfl) nd_p.1 nd_p.2) pe_int (fun _ _ => rfl)) pe_int (nomark _)) (pss_one (ps_ret (pe_ct cs_strI rfl T.n_str bt_str (pa_cons (pe_ix ix_seq (pe_var (i := 0) rfl (Or.inl rfl) nd_p.1 nd_p.2) pe_int (fun _ _ => rfl)) pa_nil)))) pss_nil) (pss_one (ps_ret (pe_bin (os_add hr tk) (pe_bin (os_add hr tk) (pe_ct cs_strI rfl T.n_str bt_str (pa_cons (pe_ix ix_seq (pe_var (i := 0) rfl (Or.inl rfl) nd_p.1 nd_p.2) pe_int (fun _ _ => rfl)) pa_nil)) pe_str) (pe_ct cs_strI rfl T.n_str bt_str (pa_cons (pe_ix ix_seq (pe_var (i := 0) rfl (Or.inl rfl) nd_p.1 nd_p.2) pe_int (fun _ _ => rfl)) pa_nil))))))), ?_⟩)
  rintro ds m K E - ⟨a, b, rfl, h1, k⟩
  show Ws _ _ _ [some (pr a b)] _ _
  try dsimp only [cx_G, cx_K]
  have hx := h1.qb
  have l1 : (dv a b).num.natAbs.log2 < 1920 := by have := hx.t.ok; omega
  have l2 : ((dv a b).den : Int).natAbs.log2 < 1920 := by have := hx.b.ok; omega
  unfold qtext ptxt itxt at k
  walk_at "go_2"
  all_goals first
    | exact h1
    | exact l1
    | exact l2
    | exact qt_ok1 l1
    | exact qt_ok2 l1 l2
    | (rw [if_pos ‹_›] at k; exact k)
    | (rw [if_neg ‹_›] at k; exact k)
def S_equals (C : Addr) : SpecD := fun ds m K _ => ∃ x a b, ds = [rq C x, pr a b] ∧ Fr 1000 a b ∧ dv a b = x ∧ K (.bl true) m
theorem use_equals {C : Addr} {x : Rat} {a b : Int} {m : Mu} {K : KT} {E : Ex → Mu → Prop} (h1 : Fr 1000 a b) (e : dv a b = x) (h : K (.bl true) m) : S_equals C [rq C x, pr a b] m K E := ⟨x, a, b, rfl, h1, e, h⟩
theorem ok_equals (T : Txt G C_Ratio C_Span C_Apart C_Crossed C_CarryError) (c__law_lowest : Cal G 1 "_law_lowest" 1 S_lowest []) {f : Addr} {fd : FuncData} (F : L2.Fun G.K "_law_equals" "_law_equals" s__law_equals f fd) (b : L2.Binds G.K fd ["told", "p"] []) : Fnx G 2 f 2 (S_equals C_Ratio) [] := by
  refine fnx_of F sc__law_equals rfl b .nil rfl (fun cdv A outer s H FF hr tk => ⟨_, (pss_cons (ps_if (pt_not (pt_tr (pe_cb cs_isi rfl T.n_isinstance bt_isinstance (pa_cons (pe_var (i := 0) rfl (Or.inl rfl) nd_told.1 nd_told.2) (pa_cons (pe_glob (v := .ref C_Ratio) rfl T.mg_Ratio rfl) pa_nil))))) (pss_one (ps_ret pe_bl)) pss_nil) (pss_cons (ps_if (PW.pt (pw_or (pt_not (pt_tr (pe_cb cs_isi rfl T.n_isinstance bt_isinstance (pa_cons (pe_fld (pe_var (i := 0) rfl (Or.inl rfl) nd_told.1 nd_told.2) rfl) (pa_cons (pe_bltn (v := .ty "int") rfl T.n_int bt_int rfl) pa_nil))))) (pw_or1 (pt_tr (pe_cb cs_isi rfl T.n_isinstance bt_isinstance (pa_cons (pe_fld (pe_var (i := 0) rfl (Or.inl rfl) nd_told.1 nd_told.2) rfl) (pa_cons (pe_bltn (v := .ty "bool") rfl T.n_bool bt_bool rfl) pa_nil))))))) (pss_one (ps_ret pe_bl)) pss_nil) (pss_cons (ps_if (PW.pt (pw_or (pt_not (pt_tr (pe_cb cs_isi rfl T.n_isinstance bt_isinstance (pa_cons (pe_fld (pe_var (i := 0) rfl (Or.inl rfl) nd_told.1 nd_told.2) rfl) (pa_cons (pe_bltn (v := .ty "int") rfl T.n_int bt_int rfl) pa_nil))))) (pw_or1 (pt_tr (pe_cb cs_isi rfl T.n_isinstance bt_isinstance (pa_cons (pe_fld (pe_var (i := 0) rfl (Or.inl rfl) nd_told.1 nd_told.2) rfl) (pa_cons (pe_bltn (v := .ty "bool") rfl T.n_bool bt_bool rfl) pa_nil))))))) (pss_one (ps_ret pe_bl)) pss_nil) (pss_one (ps_ret (pe_cm (os_eqF hr tk) (pe_tup (pa_cons (pe_fld (pe_var (i := 0) rfl (Or.inl rfl) nd_told.1 nd_told.2) rfl) (pa_cons (pe_fld (pe_var (i := 0) rfl (Or.inl rfl) nd_told.1 nd_told.2) rfl) pa_nil))) (pe_cl c__law_lowest hr (by decide) tk rfl (pa_cons (pe_var (i := 1) rfl (Or.inl rfl) nd_p.1 nd_p.2) pa_nil)) (nomark _))))))), ?_⟩)
  rintro ds m K E - ⟨x, a, b, rfl, h1, rfl, k⟩
  show Ws _ _ _ [some (rq C_Ratio (dv a b)), some (pr a b)] _ _
  try dsimp only [cx_G, cx_K]
  have R := T.R_Ratio
  have RI := R.ins
  have iR := T.is_Ratio_Ratio
  walk_at "go_2"
  · exact h1
  · exact w2_eqFs (.tup (.cons (.int _) (.cons (.int _) .nil))) rfl k
theorem okH_equals (T : Txt G C_Ratio C_Span C_Apart C_Crossed C_CarryError) (h__law_lowest : CalH G 1 "_law_lowest" 1 S_lowest) {f : Addr} {fd : FuncData} (F : L2.Fun G.K "_law_equals" "_law_equals" s__law_equals f fd) (hm : G.mg "_law_equals" = some (.ref f)) (b : L2.Binds G.K fd ["told", "p"] []) : CalH G 2 "_law_equals" 2 (S_equals C_Ratio) := by
  refine calH_of F hm sc__law_equals rfl b (fun cdv A outer s H FF p hot hr tk => ⟨_, (pss_cons (ps_if (pt_not (pt_tr (pe_cb cs_isi rfl T.n_isinstance bt_isinstance (pa_cons (pe_var (i := 0) rfl (Or.inl rfl) nd_told.1 nd_told.2) (pa_cons (pe_glob (v := .ref C_Ratio) rfl T.mg_Ratio rfl) pa_nil))))) (pss_one (ps_ret pe_bl)) pss_nil) (pss_cons (ps_if (PW.pt (pw_or (pt_not (pt_tr (pe_cb cs_isi rfl T.n_isinstance bt_isinstance (pa_cons (pe_fld (pe_var (i := 0) rfl (Or.inl rfl) nd_told.1 nd_told.2) rfl) (pa_cons (pe_bltn (v := .ty "int") rfl T.n_int bt_int rfl) pa_nil))))) (pw_or1 (pt_tr (pe_cb cs_isi rfl T.n_isinstance bt_isinstance (pa_cons (pe_fld (pe_var (i := 0) rfl (Or.inl rfl) nd_told.1 nd_told.2) rfl) (pa_cons (pe_bltn (v := .ty "bool") rfl T.n_bool bt_bool rfl) pa_nil))))))) (pss_one (ps_ret pe_bl)) pss_nil) (pss_cons (ps_if (PW.pt (pw_or (pt_not (pt_tr (pe_cb cs_isi rfl T.n_isinstance bt_isinstance (pa_cons (pe_fld (pe_var (i := 0) rfl (Or.inl rfl) nd_told.1 nd_told.2) rfl) (pa_cons (pe_bltn (v := .ty "int") rfl T.n_int bt_int rfl) pa_nil))))) (pw_or1 (pt_tr (pe_cb cs_isi rfl T.n_isinstance bt_isinstance (pa_cons (pe_fld (pe_var (i := 0) rfl (Or.inl rfl) nd_told.1 nd_told.2) rfl) (pa_cons (pe_bltn (v := .ty "bool") rfl T.n_bool bt_bool rfl) pa_nil))))))) (pss_one (ps_ret pe_bl)) pss_nil) (pss_one (ps_ret (pe_cm (os_eqHF hr) (pe_tup (pa_cons (pe_fld (pe_var (i := 0) rfl (Or.inl rfl) nd_told.1 nd_told.2) rfl) (pa_cons (pe_fld (pe_var (i := 0) rfl (Or.inl rfl) nd_told.1 nd_told.2) rfl) pa_nil))) (pe_clH h__law_lowest hr (by decide) ⟨p, hot, List.mem_cons_self⟩ tk rfl (pa_cons (pe_var (i := 1) rfl (Or.inl rfl) nd_p.1 nd_p.2) pa_nil)) (nomark _))))))), ?_⟩)
  rintro ds m K E - ⟨x, a, b, rfl, h1, rfl, k⟩
  show Ws _ _ _ [some (rq C_Ratio (dv a b)), some (pr a b)] _ _
  try dsimp only [cxH_G, cxH_K]
  have R := T.R_Ratio
  have RI := R.ins
  have iR := T.is_Ratio_Ratio
  walk_at "go_2"
  · exact h1
  · exact w2_eqHFs (.tup (.cons (.int _) (.cons (.int _) .nil))) rfl k
local macro_rules | `(tactic| walk_at "useWe_3") => `(tactic| first | (with_reducible refine we_mt ?_) | (with_reducible refine we_ratQ ?_) | (with_reducible refine we_ratQ1 ?_) | (with_reducible refine we_spn ?_) | (with_reducible refine we_sta ?_) | fail)
local macro_rules | `(tactic| walk_at "sWe_3") => `(tactic| first
  | ((with_reducible refine we_var (d := ?d) ?hv ?hk); case hv => rfl)
  | (with_reducible first
    | refine we_cint ?_ | refine we_2 ?_ | refine we_fldF ?_ | refine we_cl0 ?_ | refine we_tup ?_ | refine we_1 ?_ | refine we_c2 ?_ | refine we_cbl ?_ | refine we_cnon ?_ | refine we_cty ?_ | refine we_cref ?_
    | refine we_op ?_ | refine we_andV ?_ | refine we_orV ?_ | refine we_notV ?_ | refine we_3 ?_ | refine we_ifx ?_ | refine we_cstr ?_ | refine we_clH ?_)
  | walk_at "useWe_3")
local macro_rules | `(tactic| walk_at "useW2_3") => `(tactic| first
  | (with_reducible refine w2_qeq (by assumption) (by decide) (by assumption) ?_) | (with_reducible refine w2_seq (by assumption) (by decide) (by assumption) ?_)
  | (with_reducible refine w2_seqQ (by assumption) (by decide) (by assumption) (by assumption) (by assumption) ?_) | (with_reducible refine w2_qeqS (by assumption) (by decide) (by assumption) (by assumption) (by assumption) ?_)
  | (with_reducible refine w2_seqL (by assumption) (by decide) (by assumption) (by constructor) ?_) | (with_reducible refine w2_seqR (by assumption) (by decide) (by assumption) (by constructor) ?_)
  | (with_reducible refine w2_addStr ?_ ?_) | (with_reducible refine w2_neSame ?_) | (with_reducible refine w2_eqSame ?_) | (with_reducible refine w2_eqHFI ?_) | (with_reducible refine w2_neHFI ?_)
  | (with_reducible refine w2_andO (by assumption) (by decide) .fixed .fixed ?_)
  | (with_reducible refine w2_addO (by assumption) (by decide) .fixed .fixed ?_) | (with_reducible refine w2_subO (by assumption) (by decide) .fixed .fixed ?_) | (with_reducible refine w2_mulO (by assumption) (by decide) .fixed .fixed ?_) | (with_reducible refine w1_negO (by assumption) (by decide) .fixed ?_) | (with_reducible refine w2_inO (by assumption) (by decide) .fixed ?_) | fail)
local macro_rules | `(tactic| walk_at "sW2_3") => `(tactic| first
  | (with_reducible first
    | refine w2_add ?_ | refine w2_sub ?_ | refine w2_mul ⟨?_, ?_⟩ | refine w2_fdiv ⟨?_, ?_⟩ | refine w2_mod ⟨?_, ?_⟩ | refine w2_pow ⟨?_, ?_⟩ | refine w2_eqI ?_ | refine w2_neI ?_ | refine w2_lt ?_ | refine w2_le ?_ | refine w2_gt ?_ | refine w2_ge ?_ | refine w2_eqFI ?_ | refine w2_neFI ?_)
  | ((with_reducible refine w2_ixT (d := ?d) ⟨?hv, ?hk⟩); case hv => rfl)
  | ((with_reducible refine w2_ixL (d := ?d) ⟨?hv, ?hk⟩); case hv => rfl)
  | ((with_reducible refine w2_ixM (d := ?d) .head ⟨?hv, ?hk⟩); case hv => rfl)
  | (with_reducible first
    | refine w2_eqIH ?_ | refine w2_neIH ?_ | refine w2_mulH ⟨?_, ?_⟩ | refine w2_addH ?_ | refine w2_subH ?_ | refine w2_isN ?_ | refine w2_notN ?_ | refine w2_isB ?_ | refine w2_notB ?_)
  | walk_at "useW2_3")
local macro_rules | `(tactic| walk_at "sWa_3") => `(tactic| with_reducible first | refine wa_nil ?_ | refine wa_cons ?_)
local macro_rules | `(tactic| walk_at "useWs_3") => `(tactic| first | (with_reducible refine ws_rs0 ?_) | (with_reducible refine ws_rs ?_) | fail)
local macro_rules | `(tactic| walk_at "sWs_3") => `(tactic| first
  | (with_reducible first | refine ws_seq ?_ | refine ws_ret ?_ | refine ws_asg ?_ | refine ws_next ?_ | refine ws_drop ?_ | refine ws_par ?_ | refine ws_par3 ?_ | refine ws_fldN ?_ | refine ws_brk ?_ | refine ws_cont ?_)
  | walk_at "useWs_3")
local macro_rules | `(tactic| walk_at "sWt_3") => `(tactic| with_reducible first | refine wt_test ?_ | refine wt_tr ?_ | refine wt_and ?_ | refine wt_or ?_ | refine wt_not ?_)
local macro_rules | `(tactic| walk_at "useWc_3") => `(tactic| with_reducible refine wc_isiC (.ins (by assumption)) (by assumption) ?_)
local macro_rules | `(tactic| walk_at "sWc_3") => `(tactic| first
  | (with_reducible first | refine wc_int ?_ | refine wc_abs ?_ | refine wc_min ?_ | refine wc_gcd ?_ | refine wc_isiT .int kit_ii ?_ | refine wc_isiT .int kit_ib ?_ | refine wc_len .lst ?_ | refine wc_len .tup ?_ | refine wc_strI ?_ ?_)
  | walk_at "useWc_3")
local macro_rules | `(tactic| walk_at "sWg_3") => `(tactic| with_reducible first | refine wg_name ?_ | refine wg_subM ?_ | refine wg_tup rfl ?_)
local macro_rules | `(tactic| walk_at "sW1_3") => `(tactic| first | (with_reducible refine w1_neg ?_) | walk_at "useW2_3")
local macro_rules | `(tactic| walk_at "sWgs_3") => `(tactic| with_reducible first | refine wgs_cons ?_ | refine wgs_nil ?_)
local macro_rules | `(tactic| walk_at "useq_3") => `(tactic| first
  | (with_reducible refine fld_low (by assumption) ?_) | (with_reducible refine fld_high (by assumption) ?_)
  | (with_reducible refine mt_of0 (by assumption) (by decide) ?_) | (with_reducible refine RatQ.mk ?_ ?_ ?_)
  | (with_reducible refine use_qcmp ?_ ?_ ?_) | (with_reducible refine use_qsign ?_) | (with_reducible refine use_qdown ?_ ?_) | (with_reducible refine use_qup ?_ ?_)
  | (with_reducible refine use_qleast ?_ ?_ ?_) | (with_reducible refine use_qgreat ?_ ?_ ?_)
  | (with_reducible refine use_qadd ?_ ?_ ?_) | (with_reducible refine use_qsub ?_ ?_ ?_) | (with_reducible refine use_qmul ?_ ?_ ?_) | (with_reducible refine use_qdiv ?_ ?_ ?_ ?_) | (with_reducible refine use_qneg ?_ ?_)
  | (with_reducible refine SpnA.mk ?_ ?_ ?_ ?_)
  | (with_reducible refine use_s2 ?_ ?_) | (with_reducible refine use_sneg ?_ ?_ ?_ ?_) | (with_reducible refine use_scont ?_ ?_ ?_ ?_) | (with_reducible refine use_sdiv ?_ ?_ ?_)
  | (with_reducible refine setN_low (by assumption) ?_) | (with_reducible refine setN_high (by assumption) ?_)
  | fail)
local macro_rules | `(tactic| walk_at "useq3_3") => `(tactic| first
  | (with_reducible refine use_sand ?_ ?_ ?_ ?_ ?_ ?_) | (with_reducible refine use_satm ?_ ?_ ?_ ?_ ?_) | (with_reducible refine use_slen ?_ ?_ ?_) | (with_reducible refine use_spoint ?_ ?_) | (with_reducible refine use_qtext ?_ ?_) | (with_reducible refine use_stext ?_ ?_ ?_) | (with_reducible refine SpnX.mk ?_ ?_ ?_ ?_) | walk_at "useq_3")
local macro_rules | `(tactic| walk_at "use_3") => `(tactic| first | (with_reducible refine use_lowest ?_ ?_) | (with_reducible refine use_equals ?_ ?_ ?_) | walk_at "useq3_3" | fail)
local macro_rules | `(tactic| walk_at "sX_3") => `(tactic| first
  | (with_reducible refine ⟨_, rfl, ?_⟩)
  | (with_reducible refine fld_top (by assumption) ?_) | (with_reducible refine fld_bottom (by assumption) ?_)
  | (with_reducible refine ⟨_, .bl, ?_⟩)
  | ((with_reducible refine ⟨?h, ?_⟩); case h => rfl)
  | (with_reducible refine ⟨_, _, rfl, ?_⟩)
  | (with_reducible refine ⟨_, _, _, rfl, ?_⟩)
  | walk_at "use_3"
  | (with_reducible refine setN_top (by assumption) ?_) | (with_reducible refine setN_bottom (by assumption) ?_)
  | ((with_reducible refine ⟨_, _, _, ?j, _, rfl, rfl, .head, ?h, .head, ?_⟩); case h => rfl)
  | fail)
local macro_rules | `(tactic| walk_at "st_3") => `(tactic| first
  | ((with_reducible show We _ _ _ _ _ _); walk_at "sWe_3")
  | ((with_reducible show W2 _ _ _ _ _ _ _ _); walk_at "sW2_3")
  | ((with_reducible show Wa _ _ _ _ _ _); walk_at "sWa_3")
  | ((with_reducible show Ws _ _ _ _ _ _); walk_at "sWs_3")
  | ((with_reducible show Wt _ _ _ _ _ _); walk_at "sWt_3")
  | ((with_reducible show Wc _ _ _ _ _ _ _); walk_at "sWc_3")
  | ((with_reducible show Wg _ _ _ _ _ _ _); walk_at "sWg_3")
  | ((with_reducible show W1 _ _ _ _ _ _ _); walk_at "sW1_3")
  | ((with_reducible show Wgs _ _ _ _ _ _ _); walk_at "sWgs_3")
  | walk_at "sX_3" | fail)
local macro_rules | `(tactic| walk_at "wif_3") => `(tactic| (with_reducible refine ws_if ?_))
local macro_rules | `(tactic| walk_at "br_3") => `(tactic| ((with_reducible refine ⟨fun hb => ?_, fun hb => ?_⟩) <;> (try simp only [decide_eq_true_eq, decide_eq_false_iff_not, Bool.not_eq_true', Bool.not_eq_false', Bool.and_eq_true, Bool.or_eq_true, reduceCtorEq, List.length_map, Bool.not_true, Bool.not_false, DL.isNon, not_true_eq_false, not_false_eq_true, Classical.not_not, List.all_cons, List.all_nil, id_eq, Bool.and_self, Bool.true_and, decide_true, decide_false] at hb)))
local macro_rules | `(tactic| walk_at "go_3") => `(tactic| repeat' (first | walk_at "st_3" | walk_at "wif_3" | walk_at "br_3" | fail))
def S_is_span (S C : Addr) : SpecD := fun ds m K _ => ∃ x y a b c d, ds = [spn S C x y, pr a b, pr c d] ∧ Fr 1000 a b ∧ Fr 1000 c d ∧ dv a b = x ∧ dv c d = y ∧ K (.bl true) m
theorem use_is_span {S C : Addr} {x y : Rat} {a b c d : Int} {m : Mu} {K : KT} {E : Ex → Mu → Prop} (h1 : Fr 1000 a b) (h2 : Fr 1000 c d) (e1 : dv a b = x) (e2 : dv c d = y) (h : K (.bl true) m) : S_is_span S C [spn S C x y, pr a b, pr c d] m K E := ⟨x, y, a, b, c, d, rfl, h1, h2, e1, e2, h⟩
theorem ok_is_span (T : Txt G C_Ratio C_Span C_Apart C_Crossed C_CarryError) (c__law_equals : Cal G 2 "_law_equals" 2 (S_equals C_Ratio) []) {f : Addr} {fd : FuncData} (F : L2.Fun G.K "_law_is_span" "_law_is_span" s__law_is_span f fd) (b : L2.Binds G.K fd ["told", "low", "high"] []) : Fnx G 3 f 3 (S_is_span C_Span C_Ratio) [] := by
  refine fnx_of F sc__law_is_span rfl b .nil rfl (fun cdv A outer s H FF hr tk => ⟨_, (pss_cons (ps_if (pt_not (pt_tr (pe_cb cs_isi rfl T.n_isinstance bt_isinstance (pa_cons (pe_var (i := 0) rfl (Or.inl rfl) nd_told.1 nd_told.2) (pa_cons (pe_glob (v := .ref C_Span) rfl T.mg_Span rfl) pa_nil))))) (pss_one (ps_ret pe_bl)) pss_nil) (pss_one (ps_ret (pe_and (pe_cl c__law_equals hr (by decide) tk rfl (pa_cons (pe_fld (pe_var (i := 0) rfl (Or.inl rfl) nd_told.1 nd_told.2) rfl) (pa_cons (pe_var (i := 1) rfl (Or.inl rfl) nd_low.1 nd_low.2) pa_nil))) (pe_one (pe_cl c__law_equals hr (by decide) tk rfl (pa_cons (pe_fld (pe_var (i := 0) rfl (Or.inl rfl) nd_told.1 nd_told.2) rfl) (pa_cons (pe_var (i := 2) rfl (Or.inl rfl) nd_high.1 nd_high.2) pa_nil)))))))), ?_⟩)
  rintro ds m K E - ⟨x, y, a, b, c, d, rfl, h1, h2, rfl, rfl, k⟩
  show Ws _ _ _ [some (spn C_Span C_Ratio (dv a b) (dv c d)), some (pr a b), some (pr c d)] _ _
  try dsimp only [cx_G, cx_K]
  have S := T.S_Span
  have SI := S.ins
  have iS := T.is_Span_Span
  walk_at "go_3"
  all_goals first | assumption | rfl | exact k
end
end K06
set_option Elab.async false
set_option linter.all false
set_option maxRecDepth 100000
set_option maxHeartbeats 4000000
namespace K06
open PySem PySem.Spec L2 DL
open PyProof.Rows hiding St
/-! one step, by the goal's head -/

/-! Ratio and Span by numbers: their promises used -/


section
variable {G : Gx} {C_Ratio C_Span C_Apart C_Crossed C_CarryError : Addr}
theorem use_satmE {S C : Addr} {x0 x1 y0 y1 : Rat} {d : D} {m : Mu} {K : KT} {E : Ex → Mu → Prop} (e : atmD x0 x1 y0 y1 = d) (a0 : Qb 3900 x0) (a1 : Qb 3900 x1) (b0 : Qb 3900 y0) (b1 : Qb 3900 y1) (h : K d m) : S_satm S C [spn S C x0 x1, spn S C y0 y1] m K E := use_satm a0 a1 b0 b1 (by rw [e]; exact h)
local macro_rules | `(tactic| walk_at "useWe_1") => `(tactic| first | (with_reducible refine we_mt ?_) | (with_reducible refine we_ratQ ?_) | (with_reducible refine we_ratQ1 ?_) | (with_reducible refine we_spn ?_) | (with_reducible refine we_sta ?_) | fail)
local macro_rules | `(tactic| walk_at "sWe_1") => `(tactic| first
  | ((with_reducible refine we_var (d := ?d) ?hv ?hk); case hv => rfl)
  | (with_reducible first
    | refine we_cint ?_ | refine we_2 ?_ | refine we_fldF ?_ | refine we_cl0 ?_ | refine we_tup ?_ | refine we_1 ?_ | refine we_c2 ?_ | refine we_cbl ?_ | refine we_cnon ?_ | refine we_cty ?_ | refine we_cref ?_
    | refine we_op ?_ | refine we_andV ?_ | refine we_orV ?_ | refine we_notV ?_ | refine we_3 ?_ | refine we_ifx ?_ | refine we_cstr ?_ | refine we_clH ?_)
  | walk_at "useWe_1")
local macro_rules | `(tactic| walk_at "useW2_1") => `(tactic| first
  | (with_reducible refine w2_qeq (by assumption) (by decide) (by assumption) ?_) | (with_reducible refine w2_seq (by assumption) (by decide) (by assumption) ?_)
  | (with_reducible refine w2_seqQ (by assumption) (by decide) (by assumption) (by assumption) (by assumption) ?_) | (with_reducible refine w2_qeqS (by assumption) (by decide) (by assumption) (by assumption) (by assumption) ?_)
  | (with_reducible refine w2_seqL (by assumption) (by decide) (by assumption) (by constructor) ?_) | (with_reducible refine w2_seqR (by assumption) (by decide) (by assumption) (by constructor) ?_)
  | (with_reducible refine w2_addStr ?_ ?_) | (with_reducible refine w2_neSame ?_) | (with_reducible refine w2_eqSame ?_) | (with_reducible refine w2_eqHFI ?_) | (with_reducible refine w2_neHFI ?_)
  | (with_reducible refine w2_andO (by assumption) (by decide) .fixed .fixed ?_)
  | (with_reducible refine w2_addO (by assumption) (by decide) .fixed .fixed ?_) | (with_reducible refine w2_subO (by assumption) (by decide) .fixed .fixed ?_) | (with_reducible refine w2_mulO (by assumption) (by decide) .fixed .fixed ?_) | (with_reducible refine w1_negO (by assumption) (by decide) .fixed ?_) | (with_reducible refine w2_inO (by assumption) (by decide) .fixed ?_) | fail)
local macro_rules | `(tactic| walk_at "sW2_1") => `(tactic| first
  | (with_reducible first
    | refine w2_add ?_ | refine w2_sub ?_ | refine w2_mul ⟨?_, ?_⟩ | refine w2_fdiv ⟨?_, ?_⟩ | refine w2_mod ⟨?_, ?_⟩ | refine w2_pow ⟨?_, ?_⟩ | refine w2_eqI ?_ | refine w2_neI ?_ | refine w2_lt ?_ | refine w2_le ?_ | refine w2_gt ?_ | refine w2_ge ?_ | refine w2_eqFI ?_ | refine w2_neFI ?_)
  | ((with_reducible refine w2_ixT (d := ?d) ⟨?hv, ?hk⟩); case hv => rfl)
  | ((with_reducible refine w2_ixL (d := ?d) ⟨?hv, ?hk⟩); case hv => rfl)
  | ((with_reducible refine w2_ixM (d := ?d) .head ⟨?hv, ?hk⟩); case hv => rfl)
  | (with_reducible first
    | refine w2_eqIH ?_ | refine w2_neIH ?_ | refine w2_mulH ⟨?_, ?_⟩ | refine w2_addH ?_ | refine w2_subH ?_ | refine w2_isN ?_ | refine w2_notN ?_ | refine w2_isB ?_ | refine w2_notB ?_)
  | walk_at "useW2_1")
local macro_rules | `(tactic| walk_at "sWa_1") => `(tactic| with_reducible first | refine wa_nil ?_ | refine wa_cons ?_)
local macro_rules | `(tactic| walk_at "useWs_1") => `(tactic| first | (with_reducible refine ws_rs0 ?_) | (with_reducible refine ws_rs ?_) | fail)
local macro_rules | `(tactic| walk_at "sWs_1") => `(tactic| first
  | (with_reducible first | refine ws_seq ?_ | refine ws_ret ?_ | refine ws_asg ?_ | refine ws_next ?_ | refine ws_drop ?_ | refine ws_par ?_ | refine ws_par3 ?_ | refine ws_fldN ?_ | refine ws_brk ?_ | refine ws_cont ?_)
  | walk_at "useWs_1")
local macro_rules | `(tactic| walk_at "sWt_1") => `(tactic| with_reducible first | refine wt_test ?_ | refine wt_tr ?_ | refine wt_and ?_ | refine wt_or ?_ | refine wt_not ?_)
local macro_rules | `(tactic| walk_at "useWc_1") => `(tactic| fail)
local macro_rules | `(tactic| walk_at "sWc_1") => `(tactic| first
  | (with_reducible first | refine wc_int ?_ | refine wc_abs ?_ | refine wc_min ?_ | refine wc_gcd ?_ | refine wc_isiT .int kit_ii ?_ | refine wc_isiT .int kit_ib ?_ | refine wc_len .lst ?_ | refine wc_len .tup ?_ | refine wc_strI ?_ ?_)
  | walk_at "useWc_1")
local macro_rules | `(tactic| walk_at "sWg_1") => `(tactic| with_reducible first | refine wg_name ?_ | refine wg_subM ?_ | refine wg_tup rfl ?_)
local macro_rules | `(tactic| walk_at "sW1_1") => `(tactic| first | (with_reducible refine w1_neg ?_) | walk_at "useW2_1")
local macro_rules | `(tactic| walk_at "sWgs_1") => `(tactic| with_reducible first | refine wgs_cons ?_ | refine wgs_nil ?_)
local macro_rules | `(tactic| walk_at "useq_1") => `(tactic| first
  | (with_reducible refine fld_low (by assumption) ?_) | (with_reducible refine fld_high (by assumption) ?_)
  | (with_reducible refine mt_of0 (by assumption) (by decide) ?_) | (with_reducible refine RatQ.mk ?_ ?_ ?_)
  | (with_reducible refine use_qcmp ?_ ?_ ?_) | (with_reducible refine use_qsign ?_) | (with_reducible refine use_qdown ?_ ?_) | (with_reducible refine use_qup ?_ ?_)
  | (with_reducible refine use_qleast ?_ ?_ ?_) | (with_reducible refine use_qgreat ?_ ?_ ?_)
  | (with_reducible refine use_qadd ?_ ?_ ?_) | (with_reducible refine use_qsub ?_ ?_ ?_) | (with_reducible refine use_qmul ?_ ?_ ?_) | (with_reducible refine use_qdiv ?_ ?_ ?_ ?_) | (with_reducible refine use_qneg ?_ ?_)
  | (with_reducible refine SpnA.mk ?_ ?_ ?_ ?_)
  | (with_reducible refine use_s2 ?_ ?_) | (with_reducible refine use_sneg ?_ ?_ ?_ ?_) | (with_reducible refine use_scont ?_ ?_ ?_ ?_) | (with_reducible refine use_sdiv ?_ ?_ ?_)
  | (with_reducible refine setN_low (by assumption) ?_) | (with_reducible refine setN_high (by assumption) ?_)
  | fail)
local macro_rules | `(tactic| walk_at "useq3_1") => `(tactic| first
  | (with_reducible refine use_sand ?_ ?_ ?_ ?_ ?_ ?_) | (with_reducible refine use_satm ?_ ?_ ?_ ?_ ?_) | (with_reducible refine use_slen ?_ ?_ ?_) | (with_reducible refine use_spoint ?_ ?_) | (with_reducible refine use_qtext ?_ ?_) | (with_reducible refine use_stext ?_ ?_ ?_) | (with_reducible refine SpnX.mk ?_ ?_ ?_ ?_) | walk_at "useq_1")
local macro_rules | `(tactic| walk_at "use_1") => `(tactic| first | (with_reducible refine use_less ?_ ?_ ?_) | (with_reducible refine use_satmE (by assumption) ?_ ?_ ?_ ?_ ?_) | (with_reducible refine use_is_span ?_ ?_ ?_ ?_ ?_) | walk_at "useq3_1" | fail)
local macro_rules | `(tactic| walk_at "sX_1") => `(tactic| first
  | (with_reducible refine ⟨_, rfl, ?_⟩)
  | (with_reducible refine fld_top (by assumption) ?_) | (with_reducible refine fld_bottom (by assumption) ?_)
  | (with_reducible refine ⟨_, .bl, ?_⟩)
  | ((with_reducible refine ⟨?h, ?_⟩); case h => rfl)
  | (with_reducible refine ⟨_, _, rfl, ?_⟩)
  | (with_reducible refine ⟨_, _, _, rfl, ?_⟩)
  | walk_at "use_1"
  | (with_reducible refine setN_top (by assumption) ?_) | (with_reducible refine setN_bottom (by assumption) ?_)
  | ((with_reducible refine ⟨_, _, _, ?j, _, rfl, rfl, .head, ?h, .head, ?_⟩); case h => rfl)
  | fail)
local macro_rules | `(tactic| walk_at "st_1") => `(tactic| first
  | ((with_reducible show We _ _ _ _ _ _); walk_at "sWe_1")
  | ((with_reducible show W2 _ _ _ _ _ _ _ _); walk_at "sW2_1")
  | ((with_reducible show Wa _ _ _ _ _ _); walk_at "sWa_1")
  | ((with_reducible show Ws _ _ _ _ _ _); walk_at "sWs_1")
  | ((with_reducible show Wt _ _ _ _ _ _); walk_at "sWt_1")
  | ((with_reducible show Wc _ _ _ _ _ _ _); walk_at "sWc_1")
  | ((with_reducible show Wg _ _ _ _ _ _ _); walk_at "sWg_1")
  | ((with_reducible show W1 _ _ _ _ _ _ _); walk_at "sW1_1")
  | ((with_reducible show Wgs _ _ _ _ _ _ _); walk_at "sWgs_1")
  | walk_at "sX_1" | fail)
local macro_rules | `(tactic| walk_at "wif_1") => `(tactic| (with_reducible refine ws_if ?_))
local macro_rules | `(tactic| walk_at "br_1") => `(tactic| ((with_reducible refine ⟨fun hb => ?_, fun hb => ?_⟩) <;> (try simp only [decide_eq_true_eq, decide_eq_false_iff_not, Bool.not_eq_true', Bool.not_eq_false', Bool.and_eq_true, Bool.or_eq_true, reduceCtorEq, List.length_map, Bool.not_true, Bool.not_false, DL.isNon, not_true_eq_false, not_false_eq_true, Classical.not_not, List.all_cons, List.all_nil, id_eq, Bool.and_self, Bool.true_and, decide_true, decide_false] at hb)))
local macro_rules | `(tactic| walk_at "go_1") => `(tactic| repeat' (first | walk_at "st_1" | walk_at "wif_1" | walk_at "br_1" | fail))
/-- two spans by their ends -/
structure Four (a b c d e f g h : Int) : Prop where
  s : Two2 292 a b c d
  t : Two2 292 e f g h
theorem Two2.q {n : Nat} {a b c d : Int} (h : Two2 n a b c d) (l : n ≤ 3900) : Qb 3900 (dv a b) ∧ Qb 3900 (dv c d) := ⟨h.l.qb.mono l, h.h.qb.mono l⟩
theorem Two2.f {n k : Nat} {a b c d : Int} (h : Two2 n a b c d) (l : n ≤ k) : Fr k a b ∧ Fr k c d := ⟨h.l.mono l, h.h.mono l⟩
def S_order (S C : Addr) : SpecD := fun ds m K _ => ∃ a b c d e f g h, ds = [spn S C (dv a b) (dv c d), spn S C (dv e f) (dv g h), b4 a b c d, b4 e f g h] ∧ Four a b c d e f g h ∧ K (.bl true) m
theorem use_order {S C : Addr} {a b c d e f g h : Int} {m : Mu} {K : KT} {E : Ex → Mu → Prop} (l : Four a b c d e f g h) (k : K (.bl true) m) : S_order S C [spn S C (dv a b) (dv c d), spn S C (dv e f) (dv g h), b4 a b c d, b4 e f g h] m K E := ⟨a, b, c, d, e, f, g, h, rfl, l, k⟩
theorem ok_order (T : Txt G C_Ratio C_Span C_Apart C_Crossed C_CarryError) (m_Span_at_most : Met G 2 C_Span ["low", "high"] "at_most" 2 (S_satm C_Span C_Ratio) []) (c__law_less : Cal G 1 "_law_less" 2 S_less []) {f : Addr} {fd : FuncData} (F : L2.Fun G.K "_law_order" "_law_order" s__law_order f fd) (b : L2.Binds G.K fd ["a", "b", "s", "t"] []) : Fnx G 3 f 4 (S_order C_Span C_Ratio) [] := by
  refine fnx_of F sc__law_order rfl b .nil rfl (fun cdv A outer s H FF hr tk => ⟨_, (pss_cons (ps_set (i := 4) sc__law_order.nd rfl (Or.inl rfl) (pe_mth hr tk (pe_var (i := 0) rfl (Or.inl rfl) nd_a.1 nd_a.2) (pa_cons (pe_var (i := 1) rfl (Or.inl rfl) nd_b.1 nd_b.2) pa_nil))) (pss_cons (ps_if (pt_not (pt_tr (pe_cl c__law_less hr (by decide) tk rfl (pa_cons (pe_ix ix_seq (pe_var (i := 3) rfl (Or.inl rfl) nd_t.1 nd_t.2) pe_int (fun _ _ => rfl)) (pa_cons (pe_ix ix_seq (pe_var (i := 2) rfl (Or.inl rfl) nd_s.1 nd_s.2) pe_int (fun _ _ => rfl)) pa_nil))))) (pss_one (ps_ret (pe_cm os_is (pe_var (i := 4) rfl (Or.inl rfl) nd_told.1 nd_told.2) pe_bl (nomark _)))) pss_nil) (pss_cons (ps_if (pt_tr (pe_cl c__law_less hr (by decide) tk rfl (pa_cons (pe_ix ix_seq (pe_var (i := 3) rfl (Or.inl rfl) nd_t.1 nd_t.2) pe_int (fun _ _ => rfl)) (pa_cons (pe_ix ix_seq (pe_var (i := 2) rfl (Or.inl rfl) nd_s.1 nd_s.2) pe_int (fun _ _ => rfl)) pa_nil)))) (pss_one (ps_ret (pe_cm os_is (pe_var (i := 4) rfl (Or.inl rfl) nd_told.1 nd_told.2) pe_bl (nomark _)))) pss_nil) (pss_one (ps_ret (pe_cm os_is (pe_var (i := 4) rfl (Or.inl rfl) nd_told.1 nd_told.2) pe_non (nomark _))))))), ?_⟩)
  rintro ds m K E - ⟨a, b, c, d, e, f, g, h, rfl, l, k⟩
  show Ws _ _ _ [some (spn C_Span C_Ratio (dv a b) (dv c d)), some (spn C_Span C_Ratio (dv e f) (dv g h)), some (b4 a b c d), some (b4 e f g h), none] _ _
  try dsimp only [cx_G, cx_K]
  obtain ⟨q0, q1⟩ := l.s.q (by decide)
  obtain ⟨q2, q3⟩ := l.t.q (by decide)
  obtain ⟨f0, f1⟩ := l.s.f (show 292 ≤ 3900 by decide)
  obtain ⟨f2, f3⟩ := l.t.f (show 292 ≤ 3900 by decide)
  by_cases h1 : dv c d ≤ dv e f
  · have e1 : atmD (dv a b) (dv c d) (dv e f) (dv g h) = .bl true := by
      unfold atmD
      rw [if_pos h1]
    have n1 : ¬ dv e f < dv c d := Rat.not_lt.mpr h1
    walk_at "go_1"
    all_goals first | assumption | exact absurd ‹_› n1 | exact k
  · have n1 : dv e f < dv c d := Rat.not_le.mp h1
    by_cases h2 : dv g h < dv a b
    · have e1 : atmD (dv a b) (dv c d) (dv e f) (dv g h) = .bl false := by
        unfold atmD
        rw [if_neg h1, if_pos h2]
      walk_at "go_1"
      all_goals first | assumption | exact absurd n1 ‹_› | exact absurd h2 ‹_› | exact k
    · have e1 : atmD (dv a b) (dv c d) (dv e f) (dv g h) = .non := by
        unfold atmD
        rw [if_neg h1, if_neg h2]
      walk_at "go_1"
      all_goals first | assumption | exact absurd n1 ‹_› | exact absurd ‹_› h2 | exact k
def S_apart (S C : Addr) : SpecD := fun ds m K _ => ∃ x0 x1 y0 y1, ds = [spn S C x0 x1, spn S C y0 y1] ∧ Qb 3900 x0 ∧ Qb 3900 x1 ∧ Qb 3900 y0 ∧ Qb 3900 y1 ∧ qmin x1 y1 < qmax x0 y0 ∧ K (.bl true) m
theorem use_apart {S C : Addr} {x0 x1 y0 y1 : Rat} {m : Mu} {K : KT} {E : Ex → Mu → Prop} (a0 : Qb 3900 x0) (a1 : Qb 3900 x1) (b0 : Qb 3900 y0) (b1 : Qb 3900 y1) (lt : qmin x1 y1 < qmax x0 y0) (h : K (.bl true) m) : S_apart S C [spn S C x0 x1, spn S C y0 y1] m K E := ⟨_, _, _, _, rfl, a0, a1, b0, b1, lt, h⟩
local macro_rules | `(tactic| walk_at "useWe_2") => `(tactic| first | (with_reducible refine we_mt ?_) | (with_reducible refine we_ratQ ?_) | (with_reducible refine we_ratQ1 ?_) | (with_reducible refine we_spn ?_) | (with_reducible refine we_sta ?_) | fail)
local macro_rules | `(tactic| walk_at "sWe_2") => `(tactic| first
  | ((with_reducible refine we_var (d := ?d) ?hv ?hk); case hv => rfl)
  | (with_reducible first
    | refine we_cint ?_ | refine we_2 ?_ | refine we_fldF ?_ | refine we_cl0 ?_ | refine we_tup ?_ | refine we_1 ?_ | refine we_c2 ?_ | refine we_cbl ?_ | refine we_cnon ?_ | refine we_cty ?_ | refine we_cref ?_
    | refine we_op ?_ | refine we_andV ?_ | refine we_orV ?_ | refine we_notV ?_ | refine we_3 ?_ | refine we_ifx ?_ | refine we_cstr ?_ | refine we_clH ?_)
  | walk_at "useWe_2")
local macro_rules | `(tactic| walk_at "useW2_2") => `(tactic| first
  | (with_reducible refine w2_qeq (by assumption) (by decide) (by assumption) ?_) | (with_reducible refine w2_seq (by assumption) (by decide) (by assumption) ?_)
  | (with_reducible refine w2_seqQ (by assumption) (by decide) (by assumption) (by assumption) (by assumption) ?_) | (with_reducible refine w2_qeqS (by assumption) (by decide) (by assumption) (by assumption) (by assumption) ?_)
  | (with_reducible refine w2_seqL (by assumption) (by decide) (by assumption) (by constructor) ?_) | (with_reducible refine w2_seqR (by assumption) (by decide) (by assumption) (by constructor) ?_)
  | (with_reducible refine w2_addStr ?_ ?_) | (with_reducible refine w2_neSame ?_) | (with_reducible refine w2_eqSame ?_) | (with_reducible refine w2_eqHFI ?_) | (with_reducible refine w2_neHFI ?_)
  | (with_reducible refine w2_andO (by assumption) (by decide) .fixed .fixed ?_)
  | (with_reducible refine w2_addO (by assumption) (by decide) .fixed .fixed ?_) | (with_reducible refine w2_subO (by assumption) (by decide) .fixed .fixed ?_) | (with_reducible refine w2_mulO (by assumption) (by decide) .fixed .fixed ?_) | (with_reducible refine w1_negO (by assumption) (by decide) .fixed ?_) | (with_reducible refine w2_inO (by assumption) (by decide) .fixed ?_) | fail)
local macro_rules | `(tactic| walk_at "sW2_2") => `(tactic| first
  | (with_reducible first
    | refine w2_add ?_ | refine w2_sub ?_ | refine w2_mul ⟨?_, ?_⟩ | refine w2_fdiv ⟨?_, ?_⟩ | refine w2_mod ⟨?_, ?_⟩ | refine w2_pow ⟨?_, ?_⟩ | refine w2_eqI ?_ | refine w2_neI ?_ | refine w2_lt ?_ | refine w2_le ?_ | refine w2_gt ?_ | refine w2_ge ?_ | refine w2_eqFI ?_ | refine w2_neFI ?_)
  | ((with_reducible refine w2_ixT (d := ?d) ⟨?hv, ?hk⟩); case hv => rfl)
  | ((with_reducible refine w2_ixL (d := ?d) ⟨?hv, ?hk⟩); case hv => rfl)
  | ((with_reducible refine w2_ixM (d := ?d) .head ⟨?hv, ?hk⟩); case hv => rfl)
  | (with_reducible first
    | refine w2_eqIH ?_ | refine w2_neIH ?_ | refine w2_mulH ⟨?_, ?_⟩ | refine w2_addH ?_ | refine w2_subH ?_ | refine w2_isN ?_ | refine w2_notN ?_ | refine w2_isB ?_ | refine w2_notB ?_)
  | walk_at "useW2_2")
local macro_rules | `(tactic| walk_at "sWa_2") => `(tactic| with_reducible first | refine wa_nil ?_ | refine wa_cons ?_)
local macro_rules | `(tactic| walk_at "useWs_2") => `(tactic| first | (with_reducible refine ws_rs0 ?_) | (with_reducible refine ws_rs ?_) | fail)
local macro_rules | `(tactic| walk_at "sWs_2") => `(tactic| first
  | (with_reducible first | refine ws_seq ?_ | refine ws_ret ?_ | refine ws_asg ?_ | refine ws_next ?_ | refine ws_drop ?_ | refine ws_par ?_ | refine ws_par3 ?_ | refine ws_fldN ?_ | refine ws_brk ?_ | refine ws_cont ?_)
  | walk_at "useWs_2")
local macro_rules | `(tactic| walk_at "sWt_2") => `(tactic| with_reducible first | refine wt_test ?_ | refine wt_tr ?_ | refine wt_and ?_ | refine wt_or ?_ | refine wt_not ?_)
local macro_rules | `(tactic| walk_at "useWc_2") => `(tactic| first | (with_reducible refine wc_isEC (by assumption) (by assumption) ?_) | (with_reducible refine wc_isET (by assumption) (by assumption) ?_) | fail)
local macro_rules | `(tactic| walk_at "sWc_2") => `(tactic| first
  | (with_reducible first | refine wc_int ?_ | refine wc_abs ?_ | refine wc_min ?_ | refine wc_gcd ?_ | refine wc_isiT .int kit_ii ?_ | refine wc_isiT .int kit_ib ?_ | refine wc_len .lst ?_ | refine wc_len .tup ?_ | refine wc_strI ?_ ?_)
  | walk_at "useWc_2")
local macro_rules | `(tactic| walk_at "sWg_2") => `(tactic| with_reducible first | refine wg_name ?_ | refine wg_subM ?_ | refine wg_tup rfl ?_)
local macro_rules | `(tactic| walk_at "sW1_2") => `(tactic| first | (with_reducible refine w1_neg ?_) | walk_at "useW2_2")
local macro_rules | `(tactic| walk_at "sWgs_2") => `(tactic| with_reducible first | refine wgs_cons ?_ | refine wgs_nil ?_)
local macro_rules | `(tactic| walk_at "use_2") => `(tactic| fail)
local macro_rules | `(tactic| walk_at "sX_2") => `(tactic| first
  | (with_reducible refine ⟨_, rfl, ?_⟩)
  | (with_reducible refine fld_top (by assumption) ?_) | (with_reducible refine fld_bottom (by assumption) ?_)
  | (with_reducible refine ⟨_, .bl, ?_⟩)
  | ((with_reducible refine ⟨?h, ?_⟩); case h => rfl)
  | (with_reducible refine ⟨_, _, rfl, ?_⟩)
  | (with_reducible refine ⟨_, _, _, rfl, ?_⟩)
  | walk_at "use_2"
  | (with_reducible refine setN_top (by assumption) ?_) | (with_reducible refine setN_bottom (by assumption) ?_)
  | ((with_reducible refine ⟨_, _, _, ?j, _, rfl, rfl, .head, ?h, .head, ?_⟩); case h => rfl)
  | fail)
local macro_rules | `(tactic| walk_at "st_2") => `(tactic| first
  | ((with_reducible show We _ _ _ _ _ _); walk_at "sWe_2")
  | ((with_reducible show W2 _ _ _ _ _ _ _ _); walk_at "sW2_2")
  | ((with_reducible show Wa _ _ _ _ _ _); walk_at "sWa_2")
  | ((with_reducible show Ws _ _ _ _ _ _); walk_at "sWs_2")
  | ((with_reducible show Wt _ _ _ _ _ _); walk_at "sWt_2")
  | ((with_reducible show Wc _ _ _ _ _ _ _); walk_at "sWc_2")
  | ((with_reducible show Wg _ _ _ _ _ _ _); walk_at "sWg_2")
  | ((with_reducible show W1 _ _ _ _ _ _ _); walk_at "sW1_2")
  | ((with_reducible show Wgs _ _ _ _ _ _ _); walk_at "sWgs_2")
  | walk_at "sX_2" | fail)
local macro_rules | `(tactic| walk_at "wif_2") => `(tactic| (with_reducible refine ws_if ?_))
local macro_rules | `(tactic| walk_at "br_2") => `(tactic| ((with_reducible refine ⟨fun hb => ?_, fun hb => ?_⟩) <;> (try simp only [decide_eq_true_eq, decide_eq_false_iff_not, Bool.not_eq_true', Bool.not_eq_false', Bool.and_eq_true, Bool.or_eq_true, reduceCtorEq, List.length_map, Bool.not_true, Bool.not_false, DL.isNon, not_true_eq_false, not_false_eq_true, Classical.not_not, List.all_cons, List.all_nil, id_eq, Bool.and_self, Bool.true_and, decide_true, decide_false] at hb)))
local macro_rules | `(tactic| walk_at "go_2") => `(tactic| repeat' (first | walk_at "st_2" | walk_at "wif_2" | walk_at "br_2" | fail))
theorem ok_apart (T : Txt G C_Ratio C_Span C_Apart C_Crossed C_CarryError) (o_Span___and__ : Opr G 5 C_Span "__and__" 2 (S_sand C_Span C_Ratio C_Apart)) {f : Addr} {fd : FuncData} (F : L2.Fun G.K "_law_apart" "_law_apart" s__law_apart f fd) (b : L2.Binds G.K fd ["a", "b"] []) : Fnx G 6 f 2 (S_apart C_Span C_Ratio) [] := by
  refine fnx_of F sc__law_apart rfl b .nil rfl (fun cdv A outer s H FF hr tk => ⟨_, (pss_cons (ps_tryD (i := 3) rfl rfl sc__law_apart.nd rfl rfl ⟨rfl, nd_CarryError.1, .inl T.mg_CarryError⟩ tk (fun W1 pn1 xe1 tk1 po1 => (pss_one (ps_set (i := 2) sc__law_apart.nd rfl (Or.inl rfl) (pe_bin (o := oAnd G _ W1) (os_and (by exact hr) tk1) (pe_var (i := 0) rfl (Or.inl rfl) nd_a.1 nd_a.2) (pe_var (i := 1) rfl (Or.inl rfl) nd_b.1 nd_b.2))))) (fun a1 oe1 cls1 d1 pn1 hz hf => (pss_one (ps_ret (pe_and (pe_isE hz hf T.n_isinstance (pa_cons (pe_var (i := 3) rfl (Or.inl rfl) nd_e.1 nd_e.2) (pa_cons (pe_glob (v := .ref C_Apart) (by rfl) T.mg_Apart rfl) pa_nil))) (pe_and (pe_isE hz hf T.n_isinstance (pa_cons (pe_var (i := 3) rfl (Or.inl rfl) nd_e.1 nd_e.2) (pa_cons (pe_bltn (v := .ty "ValueError") (by rfl) T.n_ValueError bt_ValueError rfl) pa_nil))) (pe_one (pe_not (pe_isE hz hf T.n_isinstance (pa_cons (pe_var (i := 3) rfl (Or.inl rfl) nd_e.1 nd_e.2) (pa_cons (pe_glob (v := .ref C_Crossed) (by rfl) T.mg_Crossed rfl) pa_nil))))))))))) (pss_one (ps_ret pe_bl))), ?_⟩)
  rintro ds m K E - ⟨x0, x1, y0, y1, rfl, a0, a1, b0, b1, lt, k⟩
  show Ws _ _ _ [some (spn C_Span C_Ratio x0 x1), some (spn C_Span C_Ratio y0 y1), none, none] _ _
  try dsimp only [cx_G, cx_K]
  have XC := T.XC_Apart
  have i1 := T.is_Apart_Apart
  have i2 := T.is_Apart_Crossed
  have i3 := T.isT_Apart_ValueError
  refine ws_seq (ws_try fun W' => ?_)
  walk_at "go_2"
  refine ⟨x0, x1, y0, y1, rfl, a0, a1, b0, b1, .inl ⟨lt, true, T.ex_Apart_CarryError, fun _ x dd => ?_, fun z => nomatch z⟩⟩
  walk_at "go_2"
  all_goals exact k
local macro_rules | `(tactic| walk_at "useWe_3") => `(tactic| first | (with_reducible refine we_mt ?_) | (with_reducible refine we_ratQ ?_) | (with_reducible refine we_ratQ1 ?_) | (with_reducible refine we_spn ?_) | (with_reducible refine we_sta ?_) | fail)
local macro_rules | `(tactic| walk_at "sWe_3") => `(tactic| first
  | ((with_reducible refine we_var (d := ?d) ?hv ?hk); case hv => rfl)
  | (with_reducible first
    | refine we_cint ?_ | refine we_2 ?_ | refine we_fldF ?_ | refine we_cl0 ?_ | refine we_tup ?_ | refine we_1 ?_ | refine we_c2 ?_ | refine we_cbl ?_ | refine we_cnon ?_ | refine we_cty ?_ | refine we_cref ?_
    | refine we_op ?_ | refine we_andV ?_ | refine we_orV ?_ | refine we_notV ?_ | refine we_3 ?_ | refine we_ifx ?_ | refine we_cstr ?_ | refine we_clH ?_)
  | walk_at "useWe_3")
local macro_rules | `(tactic| walk_at "useW2_3") => `(tactic| first
  | (with_reducible refine w2_qeq (by assumption) (by decide) (by assumption) ?_) | (with_reducible refine w2_seq (by assumption) (by decide) (by assumption) ?_)
  | (with_reducible refine w2_seqQ (by assumption) (by decide) (by assumption) (by assumption) (by assumption) ?_) | (with_reducible refine w2_qeqS (by assumption) (by decide) (by assumption) (by assumption) (by assumption) ?_)
  | (with_reducible refine w2_seqL (by assumption) (by decide) (by assumption) (by constructor) ?_) | (with_reducible refine w2_seqR (by assumption) (by decide) (by assumption) (by constructor) ?_)
  | (with_reducible refine w2_addStr ?_ ?_) | (with_reducible refine w2_neSame ?_) | (with_reducible refine w2_eqSame ?_) | (with_reducible refine w2_eqHFI ?_) | (with_reducible refine w2_neHFI ?_)
  | (with_reducible refine w2_andO (by assumption) (by decide) .fixed .fixed ?_)
  | (with_reducible refine w2_addO (by assumption) (by decide) .fixed .fixed ?_) | (with_reducible refine w2_subO (by assumption) (by decide) .fixed .fixed ?_) | (with_reducible refine w2_mulO (by assumption) (by decide) .fixed .fixed ?_) | (with_reducible refine w1_negO (by assumption) (by decide) .fixed ?_) | (with_reducible refine w2_inO (by assumption) (by decide) .fixed ?_) | fail)
local macro_rules | `(tactic| walk_at "sW2_3") => `(tactic| first
  | (with_reducible first
    | refine w2_add ?_ | refine w2_sub ?_ | refine w2_mul ⟨?_, ?_⟩ | refine w2_fdiv ⟨?_, ?_⟩ | refine w2_mod ⟨?_, ?_⟩ | refine w2_pow ⟨?_, ?_⟩ | refine w2_eqI ?_ | refine w2_neI ?_ | refine w2_lt ?_ | refine w2_le ?_ | refine w2_gt ?_ | refine w2_ge ?_ | refine w2_eqFI ?_ | refine w2_neFI ?_)
  | ((with_reducible refine w2_ixT (d := ?d) ⟨?hv, ?hk⟩); case hv => rfl)
  | ((with_reducible refine w2_ixL (d := ?d) ⟨?hv, ?hk⟩); case hv => rfl)
  | ((with_reducible refine w2_ixM (d := ?d) .head ⟨?hv, ?hk⟩); case hv => rfl)
  | (with_reducible first
    | refine w2_eqIH ?_ | refine w2_neIH ?_ | refine w2_mulH ⟨?_, ?_⟩ | refine w2_addH ?_ | refine w2_subH ?_ | refine w2_isN ?_ | refine w2_notN ?_ | refine w2_isB ?_ | refine w2_notB ?_)
  | walk_at "useW2_3")
local macro_rules | `(tactic| walk_at "sWa_3") => `(tactic| with_reducible first | refine wa_nil ?_ | refine wa_cons ?_)
local macro_rules | `(tactic| walk_at "useWs_3") => `(tactic| first | (with_reducible refine ws_rs0 ?_) | (with_reducible refine ws_rs ?_) | fail)
local macro_rules | `(tactic| walk_at "sWs_3") => `(tactic| first
  | (with_reducible first | refine ws_seq ?_ | refine ws_ret ?_ | refine ws_asg ?_ | refine ws_next ?_ | refine ws_drop ?_ | refine ws_par ?_ | refine ws_par3 ?_ | refine ws_fldN ?_ | refine ws_brk ?_ | refine ws_cont ?_)
  | walk_at "useWs_3")
local macro_rules | `(tactic| walk_at "sWt_3") => `(tactic| with_reducible first | refine wt_test ?_ | refine wt_tr ?_ | refine wt_and ?_ | refine wt_or ?_ | refine wt_not ?_)
local macro_rules | `(tactic| walk_at "useWc_3") => `(tactic| first | (with_reducible refine wc_isEC (by assumption) (by assumption) ?_) | (with_reducible refine wc_isET (by assumption) (by assumption) ?_) | fail)
local macro_rules | `(tactic| walk_at "sWc_3") => `(tactic| first
  | (with_reducible first | refine wc_int ?_ | refine wc_abs ?_ | refine wc_min ?_ | refine wc_gcd ?_ | refine wc_isiT .int kit_ii ?_ | refine wc_isiT .int kit_ib ?_ | refine wc_len .lst ?_ | refine wc_len .tup ?_ | refine wc_strI ?_ ?_)
  | walk_at "useWc_3")
local macro_rules | `(tactic| walk_at "sWg_3") => `(tactic| with_reducible first | refine wg_name ?_ | refine wg_subM ?_ | refine wg_tup rfl ?_)
local macro_rules | `(tactic| walk_at "sW1_3") => `(tactic| first | (with_reducible refine w1_neg ?_) | walk_at "useW2_3")
local macro_rules | `(tactic| walk_at "sWgs_3") => `(tactic| with_reducible first | refine wgs_cons ?_ | refine wgs_nil ?_)
local macro_rules | `(tactic| walk_at "useq_3") => `(tactic| first
  | (with_reducible refine fld_low (by assumption) ?_) | (with_reducible refine fld_high (by assumption) ?_)
  | (with_reducible refine mt_of0 (by assumption) (by decide) ?_) | (with_reducible refine RatQ.mk ?_ ?_ ?_)
  | (with_reducible refine use_qcmp ?_ ?_ ?_) | (with_reducible refine use_qsign ?_) | (with_reducible refine use_qdown ?_ ?_) | (with_reducible refine use_qup ?_ ?_)
  | (with_reducible refine use_qleast ?_ ?_ ?_) | (with_reducible refine use_qgreat ?_ ?_ ?_)
  | (with_reducible refine use_qadd ?_ ?_ ?_) | (with_reducible refine use_qsub ?_ ?_ ?_) | (with_reducible refine use_qmul ?_ ?_ ?_) | (with_reducible refine use_qdiv ?_ ?_ ?_ ?_) | (with_reducible refine use_qneg ?_ ?_)
  | (with_reducible refine SpnA.mk ?_ ?_ ?_ ?_)
  | (with_reducible refine use_s2 ?_ ?_) | (with_reducible refine use_sneg ?_ ?_ ?_ ?_) | (with_reducible refine use_scont ?_ ?_ ?_ ?_) | (with_reducible refine use_sdiv ?_ ?_ ?_)
  | (with_reducible refine setN_low (by assumption) ?_) | (with_reducible refine setN_high (by assumption) ?_)
  | fail)
local macro_rules | `(tactic| walk_at "useq3_3") => `(tactic| first
  | (with_reducible refine use_sand ?_ ?_ ?_ ?_ ?_ ?_) | (with_reducible refine use_satm ?_ ?_ ?_ ?_ ?_) | (with_reducible refine use_slen ?_ ?_ ?_) | (with_reducible refine use_spoint ?_ ?_) | (with_reducible refine use_qtext ?_ ?_) | (with_reducible refine use_stext ?_ ?_ ?_) | (with_reducible refine SpnX.mk ?_ ?_ ?_ ?_) | walk_at "useq_3")
local macro_rules | `(tactic| walk_at "use_3") => `(tactic| first | (with_reducible refine use_less ?_ ?_ ?_) | (with_reducible refine use_is_span ?_ ?_ ?_ ?_ ?_) | (with_reducible refine use_apart ?_ ?_ ?_ ?_ ?_ ?_) | walk_at "useq3_3" | fail)
local macro_rules | `(tactic| walk_at "sX_3") => `(tactic| first
  | (with_reducible refine ⟨_, rfl, ?_⟩)
  | (with_reducible refine fld_top (by assumption) ?_) | (with_reducible refine fld_bottom (by assumption) ?_)
  | (with_reducible refine ⟨_, .bl, ?_⟩)
  | ((with_reducible refine ⟨?h, ?_⟩); case h => rfl)
  | (with_reducible refine ⟨_, _, rfl, ?_⟩)
  | (with_reducible refine ⟨_, _, _, rfl, ?_⟩)
  | walk_at "use_3"
  | (with_reducible refine setN_top (by assumption) ?_) | (with_reducible refine setN_bottom (by assumption) ?_)
  | ((with_reducible refine ⟨_, _, _, ?j, _, rfl, rfl, .head, ?h, .head, ?_⟩); case h => rfl)
  | fail)
local macro_rules | `(tactic| walk_at "st_3") => `(tactic| first
  | ((with_reducible show We _ _ _ _ _ _); walk_at "sWe_3")
  | ((with_reducible show W2 _ _ _ _ _ _ _ _); walk_at "sW2_3")
  | ((with_reducible show Wa _ _ _ _ _ _); walk_at "sWa_3")
  | ((with_reducible show Ws _ _ _ _ _ _); walk_at "sWs_3")
  | ((with_reducible show Wt _ _ _ _ _ _); walk_at "sWt_3")
  | ((with_reducible show Wc _ _ _ _ _ _ _); walk_at "sWc_3")
  | ((with_reducible show Wg _ _ _ _ _ _ _); walk_at "sWg_3")
  | ((with_reducible show W1 _ _ _ _ _ _ _); walk_at "sW1_3")
  | ((with_reducible show Wgs _ _ _ _ _ _ _); walk_at "sWgs_3")
  | walk_at "sX_3" | fail)
local macro_rules | `(tactic| walk_at "wif_3") => `(tactic| (with_reducible refine ws_if ?_))
local macro_rules | `(tactic| walk_at "br_3") => `(tactic| ((with_reducible refine ⟨fun hb => ?_, fun hb => ?_⟩) <;> (try simp only [decide_eq_true_eq, decide_eq_false_iff_not, Bool.not_eq_true', Bool.not_eq_false', Bool.and_eq_true, Bool.or_eq_true, reduceCtorEq, List.length_map, Bool.not_true, Bool.not_false, DL.isNon, not_true_eq_false, not_false_eq_true, Classical.not_not, List.all_cons, List.all_nil, id_eq, Bool.and_self, Bool.true_and, decide_true, decide_false] at hb)))
local macro_rules | `(tactic| walk_at "go_3") => `(tactic| repeat' (first | walk_at "st_3" | walk_at "wif_3" | walk_at "br_3" | fail))
def S_four (S C : Addr) : SpecD := S_order S C
theorem ok_common (T : Txt G C_Ratio C_Span C_Apart C_Crossed C_CarryError) (o_Span___and__ : Opr G 5 C_Span "__and__" 2 (S_sand C_Span C_Ratio C_Apart)) (c__law_less : Cal G 1 "_law_less" 2 S_less []) (c__law_apart : Cal G 6 "_law_apart" 2 (S_apart C_Span C_Ratio) []) (c__law_is_span : Cal G 3 "_law_is_span" 3 (S_is_span C_Span C_Ratio) []) {f : Addr} {fd : FuncData} (F : L2.Fun G.K "_law_common" "_law_common" s__law_common f fd) (b : L2.Binds G.K fd ["a", "b", "s", "t"] []) : Fnx G 7 f 4 (S_order C_Span C_Ratio) [] := by
  refine fnx_of F sc__law_common rfl b .nil rfl (fun cdv A outer s H FF hr tk => ⟨_, (pss_cons (ps_set (i := 4) sc__law_common.nd rfl (Or.inl rfl) (pe_ifExp (pt_tr (pe_cl c__law_less hr (by decide) tk rfl (pa_cons (pe_ix ix_seq (pe_var (i := 2) rfl (Or.inl rfl) nd_s.1 nd_s.2) pe_int (fun _ _ => rfl)) (pa_cons (pe_ix ix_seq (pe_var (i := 3) rfl (Or.inl rfl) nd_t.1 nd_t.2) pe_int (fun _ _ => rfl)) pa_nil)))) (pe_ix ix_seq (pe_var (i := 3) rfl (Or.inl rfl) nd_t.1 nd_t.2) pe_int (fun _ _ => rfl)) (pe_ix ix_seq (pe_var (i := 2) rfl (Or.inl rfl) nd_s.1 nd_s.2) pe_int (fun _ _ => rfl)))) (pss_cons (ps_set (i := 5) sc__law_common.nd rfl (Or.inl rfl) (pe_ifExp (pt_tr (pe_cl c__law_less hr (by decide) tk rfl (pa_cons (pe_ix ix_seq (pe_var (i := 3) rfl (Or.inl rfl) nd_t.1 nd_t.2) pe_int (fun _ _ => rfl)) (pa_cons (pe_ix ix_seq (pe_var (i := 2) rfl (Or.inl rfl) nd_s.1 nd_s.2) pe_int (fun _ _ => rfl)) pa_nil)))) (pe_ix ix_seq (pe_var (i := 3) rfl (Or.inl rfl) nd_t.1 nd_t.2) pe_int (fun _ _ => rfl)) (pe_ix ix_seq (pe_var (i := 2) rfl (Or.inl rfl) nd_s.1 nd_s.2) pe_int (fun _ _ => rfl)))) (pss_cons (ps_if (pt_tr (pe_cl c__law_less hr (by decide) tk rfl (pa_cons (pe_var (i := 5) rfl (Or.inl rfl) nd_high.1 nd_high.2) (pa_cons (pe_var (i := 4) rfl (Or.inl rfl) nd_low.1 nd_low.2) pa_nil)))) (pss_one (ps_ret (pe_cl c__law_apart hr (by decide) tk rfl (pa_cons (pe_var (i := 0) rfl (Or.inl rfl) nd_a.1 nd_a.2) (pa_cons (pe_var (i := 1) rfl (Or.inl rfl) nd_b.1 nd_b.2) pa_nil))))) pss_nil) (pss_one (ps_ret (pe_cl c__law_is_span hr (by decide) tk rfl (pa_cons (pe_bin (os_and hr tk) (pe_var (i := 0) rfl (Or.inl rfl) nd_a.1 nd_a.2) (pe_var (i := 1) rfl (Or.inl rfl) nd_b.1 nd_b.2)) (pa_cons (pe_var (i := 4) rfl (Or.inl rfl) nd_low.1 nd_low.2) (pa_cons (pe_var (i := 5) rfl (Or.inl rfl) nd_high.1 nd_high.2) pa_nil))))))))), ?_⟩)
  rintro ds m K E - ⟨a, b, c, d, e, f, g, h, rfl, l, k⟩
  show Ws _ _ _ [some (spn C_Span C_Ratio (dv a b) (dv c d)), some (spn C_Span C_Ratio (dv e f) (dv g h)), some (b4 a b c d), some (b4 e f g h), none, none] _ _
  try dsimp only [cx_G, cx_K]
  obtain ⟨q0, q1⟩ := l.s.q (by decide)
  obtain ⟨q2, q3⟩ := l.t.q (by decide)
  obtain ⟨f0, f1⟩ := l.s.f (show 292 ≤ 3900 by decide)
  obtain ⟨f2, f3⟩ := l.t.f (show 292 ≤ 3900 by decide)
  obtain ⟨g0, g1⟩ := l.s.f (show 292 ≤ 1000 by decide)
  obtain ⟨g2, g3⟩ := l.t.f (show 292 ≤ 1000 by decide)
  by_cases h1 : dv a b < dv e f
  · have e1 : qmax (dv a b) (dv e f) = dv e f := by
      unfold qmax
      rw [if_pos h1]
    by_cases h2 : dv g h < dv c d
    · have e2 : qmin (dv c d) (dv g h) = dv g h := by
        unfold qmin
        rw [if_pos h2]
      walk_at "go_3"
      all_goals first | assumption | exact absurd h1 ‹_› | exact absurd h2 ‹_› | exact e1.symm | exact e2.symm | (rw [e1, e2]; first | assumption | exact Rat.not_lt.mp ‹_›) | exact k
    · have e2 : qmin (dv c d) (dv g h) = dv c d := by
        unfold qmin
        rw [if_neg h2]
      walk_at "go_3"
      all_goals first | assumption | exact absurd h1 ‹_› | exact absurd ‹_› h2 | exact e1.symm | exact e2.symm | (rw [e1, e2]; first | assumption | exact Rat.not_lt.mp ‹_›) | exact k
  · have e1 : qmax (dv a b) (dv e f) = dv a b := by
      unfold qmax
      rw [if_neg h1]
    by_cases h2 : dv g h < dv c d
    · have e2 : qmin (dv c d) (dv g h) = dv g h := by
        unfold qmin
        rw [if_pos h2]
      walk_at "go_3"
      all_goals first | assumption | exact absurd ‹_› h1 | exact absurd h2 ‹_› | exact e1.symm | exact e2.symm | (rw [e1, e2]; first | assumption | exact Rat.not_lt.mp ‹_›) | exact k
    · have e2 : qmin (dv c d) (dv g h) = dv c d := by
        unfold qmin
        rw [if_neg h2]
      walk_at "go_3"
      all_goals first | assumption | exact absurd ‹_› h1 | exact absurd ‹_› h2 | exact e1.symm | exact e2.symm | (rw [e1, e2]; first | assumption | exact Rat.not_lt.mp ‹_›) | exact k
theorem ok_same (T : Txt G C_Ratio C_Span C_Apart C_Crossed C_CarryError) (o_Span___eq__ : Opr G 2 C_Span "__eq__" 2 (S_seq G C_Span C_Ratio)) (c__law_less : Cal G 1 "_law_less" 2 S_less []) {f : Addr} {fd : FuncData} (F : L2.Fun G.K "_law_same" "_law_same" s__law_same f fd) (b : L2.Binds G.K fd ["a", "b", "s", "t"] []) : Fnx G 3 f 4 (S_order C_Span C_Ratio) [] := by
  refine fnx_of F sc__law_same rfl b .nil rfl (fun cdv A outer s H FF hr tk => ⟨_, (pss_cons (ps_set (i := 4) sc__law_same.nd rfl (Or.inl rfl) (pe_and (pe_not (pe_cl c__law_less hr (by decide) tk rfl (pa_cons (pe_ix ix_seq (pe_var (i := 2) rfl (Or.inl rfl) nd_s.1 nd_s.2) pe_int (fun _ _ => rfl)) (pa_cons (pe_ix ix_seq (pe_var (i := 3) rfl (Or.inl rfl) nd_t.1 nd_t.2) pe_int (fun _ _ => rfl)) pa_nil)))) (pe_one (pe_not (pe_cl c__law_less hr (by decide) tk rfl (pa_cons (pe_ix ix_seq (pe_var (i := 3) rfl (Or.inl rfl) nd_t.1 nd_t.2) pe_int (fun _ _ => rfl)) (pa_cons (pe_ix ix_seq (pe_var (i := 2) rfl (Or.inl rfl) nd_s.1 nd_s.2) pe_int (fun _ _ => rfl)) pa_nil))))))) (pss_cons (ps_set (i := 4) sc__law_same.nd rfl (Or.inl rfl) (pe_and (pe_var (i := 4) rfl (Or.inl rfl) nd_due.1 nd_due.2) (pe_and (pe_not (pe_cl c__law_less hr (by decide) tk rfl (pa_cons (pe_ix ix_seq (pe_var (i := 2) rfl (Or.inl rfl) nd_s.1 nd_s.2) pe_int (fun _ _ => rfl)) (pa_cons (pe_ix ix_seq (pe_var (i := 3) rfl (Or.inl rfl) nd_t.1 nd_t.2) pe_int (fun _ _ => rfl)) pa_nil)))) (pe_one (pe_not (pe_cl c__law_less hr (by decide) tk rfl (pa_cons (pe_ix ix_seq (pe_var (i := 3) rfl (Or.inl rfl) nd_t.1 nd_t.2) pe_int (fun _ _ => rfl)) (pa_cons (pe_ix ix_seq (pe_var (i := 2) rfl (Or.inl rfl) nd_s.1 nd_s.2) pe_int (fun _ _ => rfl)) pa_nil)))))))) (pss_cons (ps_if (pt_tr (pe_var (i := 4) rfl (Or.inl rfl) nd_due.1 nd_due.2)) (pss_one (ps_ret (pe_cm os_is (pe_cm (os_eqF hr tk) (pe_var (i := 0) rfl (Or.inl rfl) nd_a.1 nd_a.2) (pe_var (i := 1) rfl (Or.inl rfl) nd_b.1 nd_b.2) (nomark _)) pe_bl (nomark _)))) pss_nil) (pss_one (ps_ret (pe_cm os_is (pe_cm (os_eqF hr tk) (pe_var (i := 0) rfl (Or.inl rfl) nd_a.1 nd_a.2) (pe_var (i := 1) rfl (Or.inl rfl) nd_b.1 nd_b.2) (nomark _)) pe_bl (nomark _))))))), ?_⟩)
  rintro ds m K E - ⟨a, b, c, d, e, f, g, h, rfl, l, k⟩
  show Ws _ _ _ [some (spn C_Span C_Ratio (dv a b) (dv c d)), some (spn C_Span C_Ratio (dv e f) (dv g h)), some (b4 a b c d), some (b4 e f g h), none] _ _
  try dsimp only [cx_G, cx_K]
  obtain ⟨f0, f1⟩ := l.s.f (show 292 ≤ 3900 by decide)
  obtain ⟨f2, f3⟩ := l.t.f (show 292 ≤ 3900 by decide)
  have S := T.S_Span
  have SI := S.ins
  have eq2 : ∀ {u v : Rat}, ¬ u < v → ¬ v < u → u = v := fun h1 h2 => Rat.le_antisymm (Rat.not_lt.mp h2) (Rat.not_lt.mp h1)
  by_cases h1 : dv a b < dv e f
  · have n0 : ¬ (dv a b = dv e f ∧ dv c d = dv g h) := fun z => absurd (z.1 ▸ h1) Rat.lt_irrefl
    walk_at "go_3"
    all_goals first | assumption | exact absurd h1 ‹_› | (rw [decide_eq_false n0]; exact k)
  · by_cases h2 : dv e f < dv a b
    · have n0 : ¬ (dv a b = dv e f ∧ dv c d = dv g h) := fun z => absurd (z.1 ▸ h2) Rat.lt_irrefl
      walk_at "go_3"
      all_goals first | assumption | exact absurd ‹_› h1 | exact absurd h2 ‹_› | (rw [decide_eq_false n0]; exact k)
    · by_cases h3 : dv c d < dv g h
      · have n0 : ¬ (dv a b = dv e f ∧ dv c d = dv g h) := fun z => absurd (z.2 ▸ h3) Rat.lt_irrefl
        walk_at "go_3"
        all_goals first | assumption | exact absurd ‹_› h1 | exact absurd ‹_› h2 | exact absurd h3 ‹_› | (rw [decide_eq_false n0]; exact k)
      · by_cases h4 : dv g h < dv c d
        · have n0 : ¬ (dv a b = dv e f ∧ dv c d = dv g h) := fun z => absurd (z.2 ▸ h4) Rat.lt_irrefl
          walk_at "go_3"
          all_goals first | assumption | exact absurd ‹_› h1 | exact absurd ‹_› h2 | exact absurd ‹_› h3 | exact absurd h4 ‹_› | (rw [decide_eq_false n0]; exact k)
        · have y0 : dv a b = dv e f ∧ dv c d = dv g h := ⟨eq2 h1 h2, eq2 h3 h4⟩
          walk_at "go_3"
          all_goals first | assumption | exact absurd ‹_› h1 | exact absurd ‹_› h2 | exact absurd ‹_› h3 | exact absurd ‹_› h4 | (rw [decide_eq_true y0]; exact k)
end
end K06
set_option Elab.async false
set_option linter.all false
set_option maxRecDepth 100000
set_option maxHeartbeats 4000000
namespace K06
open PySem PySem.Spec L2 DL
open PyProof.Rows hiding St
/-! one step, by the goal's head -/

/-! Ratio and Span by numbers: their promises used -/


theorem kit_ss {K : PySem.W.Frag} : PySem.W.kitOne K (.type "str") (.type "str") = some true := kit_ty (by decide +kernel)
theorem fix_low {x y : D} : fix "low" ["high", "low"] [x, y] = some y := by
  have : ¬ (("low" : Str) = "high") := by decide +kernel
  simp [fix, this]
theorem fix_high {x y : D} : fix "high" ["high", "low"] [x, y] = some x := by simp [fix]
section
variable {G : Gx} {C_Ratio C_Span C_Apart C_Crossed C_CarryError : Addr}
theorem use_stextU {S C : Addr} {x0 x1 : Rat} {m : Mu} {K : KT} {E : Ex → Mu → Prop} (a0 : Qb 1900 x0) (a1 : Qb 1900 x1) (h : K (.str (Str.ofString "[" ++ qtext x0 ++ Str.ofString ", " ++ qtext x1 ++ Str.ofString "]")) m) : S_stext S C [spn S C x0 x1] m K E := use_stext a0 a1 h
def S_contains (S C : Addr) : SpecD := fun ds m K _ => ∃ n a b c d e f, ds = [spn S C (dv a b) (dv c d), b4 a b c d, pr e f] ∧ n ≤ 292 ∧ Two2 n a b c d ∧ Fr 1000 e f ∧ K (.bl true) m
theorem use_contains {S C : Addr} {n : Nat} {a b c d e f : Int} {m : Mu} {K : KT} {E : Ex → Mu → Prop} (hn : n ≤ 292) (h : Two2 n a b c d) (h2 : Fr 1000 e f) (k : K (.bl true) m) : S_contains S C [spn S C (dv a b) (dv c d), b4 a b c d, pr e f] m K E := ⟨n, a, b, c, d, e, f, rfl, hn, h, h2, k⟩
local macro_rules | `(tactic| walk_at "useWe_1") => `(tactic| first | (with_reducible refine we_mt ?_) | (with_reducible refine we_ratQ ?_) | (with_reducible refine we_ratQ1 ?_) | (with_reducible refine we_spn ?_) | (with_reducible refine we_sta ?_) | fail)
local macro_rules | `(tactic| walk_at "sWe_1") => `(tactic| first
  | ((with_reducible refine we_var (d := ?d) ?hv ?hk); case hv => rfl)
  | (with_reducible first
    | refine we_cint ?_ | refine we_2 ?_ | refine we_fldF ?_ | refine we_cl0 ?_ | refine we_tup ?_ | refine we_1 ?_ | refine we_c2 ?_ | refine we_cbl ?_ | refine we_cnon ?_ | refine we_cty ?_ | refine we_cref ?_
    | refine we_op ?_ | refine we_andV ?_ | refine we_orV ?_ | refine we_notV ?_ | refine we_3 ?_ | refine we_ifx ?_ | refine we_cstr ?_ | refine we_clH ?_)
  | walk_at "useWe_1")
local macro_rules | `(tactic| walk_at "useW2_1") => `(tactic| first
  | (with_reducible refine w2_qeq (by assumption) (by decide) (by assumption) ?_) | (with_reducible refine w2_seq (by assumption) (by decide) (by assumption) ?_)
  | (with_reducible refine w2_seqQ (by assumption) (by decide) (by assumption) (by assumption) (by assumption) ?_) | (with_reducible refine w2_qeqS (by assumption) (by decide) (by assumption) (by assumption) (by assumption) ?_)
  | (with_reducible refine w2_seqL (by assumption) (by decide) (by assumption) (by constructor) ?_) | (with_reducible refine w2_seqR (by assumption) (by decide) (by assumption) (by constructor) ?_)
  | (with_reducible refine w2_addStr ?_ ?_) | (with_reducible refine w2_neSame ?_) | (with_reducible refine w2_eqSame ?_) | (with_reducible refine w2_eqHFI ?_) | (with_reducible refine w2_neHFI ?_)
  | (with_reducible refine w2_andO (by assumption) (by decide) .fixed .fixed ?_)
  | (with_reducible refine w2_addO (by assumption) (by decide) .fixed .fixed ?_) | (with_reducible refine w2_subO (by assumption) (by decide) .fixed .fixed ?_) | (with_reducible refine w2_mulO (by assumption) (by decide) .fixed .fixed ?_) | (with_reducible refine w1_negO (by assumption) (by decide) .fixed ?_) | (with_reducible refine w2_inO (by assumption) (by decide) .fixed ?_) | fail)
local macro_rules | `(tactic| walk_at "sW2_1") => `(tactic| first
  | (with_reducible first
    | refine w2_add ?_ | refine w2_sub ?_ | refine w2_mul ⟨?_, ?_⟩ | refine w2_fdiv ⟨?_, ?_⟩ | refine w2_mod ⟨?_, ?_⟩ | refine w2_pow ⟨?_, ?_⟩ | refine w2_eqI ?_ | refine w2_neI ?_ | refine w2_lt ?_ | refine w2_le ?_ | refine w2_gt ?_ | refine w2_ge ?_ | refine w2_eqFI ?_ | refine w2_neFI ?_)
  | ((with_reducible refine w2_ixT (d := ?d) ⟨?hv, ?hk⟩); case hv => rfl)
  | ((with_reducible refine w2_ixL (d := ?d) ⟨?hv, ?hk⟩); case hv => rfl)
  | ((with_reducible refine w2_ixM (d := ?d) .head ⟨?hv, ?hk⟩); case hv => rfl)
  | (with_reducible first
    | refine w2_eqIH ?_ | refine w2_neIH ?_ | refine w2_mulH ⟨?_, ?_⟩ | refine w2_addH ?_ | refine w2_subH ?_ | refine w2_isN ?_ | refine w2_notN ?_ | refine w2_isB ?_ | refine w2_notB ?_)
  | walk_at "useW2_1")
local macro_rules | `(tactic| walk_at "sWa_1") => `(tactic| with_reducible first | refine wa_nil ?_ | refine wa_cons ?_)
local macro_rules | `(tactic| walk_at "useWs_1") => `(tactic| first | (with_reducible refine ws_rs0 ?_) | (with_reducible refine ws_rs ?_) | fail)
local macro_rules | `(tactic| walk_at "sWs_1") => `(tactic| first
  | (with_reducible first | refine ws_seq ?_ | refine ws_ret ?_ | refine ws_asg ?_ | refine ws_next ?_ | refine ws_drop ?_ | refine ws_par ?_ | refine ws_par3 ?_ | refine ws_fldN ?_ | refine ws_brk ?_ | refine ws_cont ?_)
  | walk_at "useWs_1")
local macro_rules | `(tactic| walk_at "sWt_1") => `(tactic| with_reducible first | refine wt_test ?_ | refine wt_tr ?_ | refine wt_and ?_ | refine wt_or ?_ | refine wt_not ?_)
local macro_rules | `(tactic| walk_at "useWc_1") => `(tactic| fail)
local macro_rules | `(tactic| walk_at "sWc_1") => `(tactic| first
  | (with_reducible first | refine wc_int ?_ | refine wc_abs ?_ | refine wc_min ?_ | refine wc_gcd ?_ | refine wc_isiT .int kit_ii ?_ | refine wc_isiT .int kit_ib ?_ | refine wc_len .lst ?_ | refine wc_len .tup ?_ | refine wc_strI ?_ ?_)
  | walk_at "useWc_1")
local macro_rules | `(tactic| walk_at "sWg_1") => `(tactic| with_reducible first | refine wg_name ?_ | refine wg_subM ?_ | refine wg_tup rfl ?_)
local macro_rules | `(tactic| walk_at "sW1_1") => `(tactic| first | (with_reducible refine w1_neg ?_) | walk_at "useW2_1")
local macro_rules | `(tactic| walk_at "sWgs_1") => `(tactic| with_reducible first | refine wgs_cons ?_ | refine wgs_nil ?_)
local macro_rules | `(tactic| walk_at "use_1") => `(tactic| first | (with_reducible refine use_less ?_ ?_ ?_) | (with_reducible refine RatQ.mk ?_ ?_ ?_) | (with_reducible refine use_scont ?_ ?_ ?_ ?_) | fail)
local macro_rules | `(tactic| walk_at "sX_1") => `(tactic| first
  | (with_reducible refine ⟨_, rfl, ?_⟩)
  | (with_reducible refine fld_top (by assumption) ?_) | (with_reducible refine fld_bottom (by assumption) ?_)
  | (with_reducible refine ⟨_, .bl, ?_⟩)
  | ((with_reducible refine ⟨?h, ?_⟩); case h => rfl)
  | (with_reducible refine ⟨_, _, rfl, ?_⟩)
  | (with_reducible refine ⟨_, _, _, rfl, ?_⟩)
  | walk_at "use_1"
  | (with_reducible refine setN_top (by assumption) ?_) | (with_reducible refine setN_bottom (by assumption) ?_)
  | ((with_reducible refine ⟨_, _, _, ?j, _, rfl, rfl, .head, ?h, .head, ?_⟩); case h => rfl)
  | fail)
local macro_rules | `(tactic| walk_at "st_1") => `(tactic| first
  | ((with_reducible show We _ _ _ _ _ _); walk_at "sWe_1")
  | ((with_reducible show W2 _ _ _ _ _ _ _ _); walk_at "sW2_1")
  | ((with_reducible show Wa _ _ _ _ _ _); walk_at "sWa_1")
  | ((with_reducible show Ws _ _ _ _ _ _); walk_at "sWs_1")
  | ((with_reducible show Wt _ _ _ _ _ _); walk_at "sWt_1")
  | ((with_reducible show Wc _ _ _ _ _ _ _); walk_at "sWc_1")
  | ((with_reducible show Wg _ _ _ _ _ _ _); walk_at "sWg_1")
  | ((with_reducible show W1 _ _ _ _ _ _ _); walk_at "sW1_1")
  | ((with_reducible show Wgs _ _ _ _ _ _ _); walk_at "sWgs_1")
  | walk_at "sX_1" | fail)
local macro_rules | `(tactic| walk_at "wif_1") => `(tactic| (with_reducible refine ws_if ?_))
local macro_rules | `(tactic| walk_at "br_1") => `(tactic| ((with_reducible refine ⟨fun hb => ?_, fun hb => ?_⟩) <;> (try simp only [decide_eq_true_eq, decide_eq_false_iff_not, Bool.not_eq_true', Bool.not_eq_false', Bool.and_eq_true, Bool.or_eq_true, reduceCtorEq, List.length_map, Bool.not_true, Bool.not_false, DL.isNon, not_true_eq_false, not_false_eq_true, Classical.not_not, List.all_cons, List.all_nil, id_eq, Bool.and_self, Bool.true_and, decide_true, decide_false] at hb)))
local macro_rules | `(tactic| walk_at "go_1") => `(tactic| repeat' (first | walk_at "st_1" | walk_at "wif_1" | walk_at "br_1" | fail))
theorem ok_contains (T : Txt G C_Ratio C_Span C_Apart C_Crossed C_CarryError) (k_Ratio : Mak G 1 "Ratio" C_Ratio 3 (S_init C_Ratio) []) (o_Span___contains__ : Opr G 2 C_Span "__contains__" 2 (S_scont C_Span C_Ratio)) (c__law_less : Cal G 1 "_law_less" 2 S_less []) {f : Addr} {fd : FuncData} (F : L2.Fun G.K "_law_contains" "_law_contains" s__law_contains f fd) (b : L2.Binds G.K fd ["a", "s", "p"] []) : Fnx G 3 f 3 (S_contains C_Span C_Ratio) [] := by
  refine fnx_of F sc__law_contains rfl b .nil rfl (fun cdv A outer s H FF hr tk => ⟨_, (pss_cons (ps_if (PW.pt (pw_or (pt_tr (pe_cl c__law_less hr (by decide) tk rfl (pa_cons (pe_var (i := 2) rfl (Or.inl rfl) nd_p.1 nd_p.2) (pa_cons (pe_ix ix_seq (pe_var (i := 1) rfl (Or.inl rfl) nd_s.1 nd_s.2) pe_int (fun _ _ => rfl)) pa_nil)))) (pw_or1 (pt_tr (pe_cl c__law_less hr (by decide) tk rfl (pa_cons (pe_ix ix_seq (pe_var (i := 1) rfl (Or.inl rfl) nd_s.1 nd_s.2) pe_int (fun _ _ => rfl)) (pa_cons (pe_var (i := 2) rfl (Or.inl rfl) nd_p.1 nd_p.2) pa_nil))))))) (pss_one (ps_ret (pe_cm os_is (pe_cm (os_inO hr tk) (pe_mak k_Ratio hr (by decide) tk rfl (pa_cons (pe_ix ix_seq (pe_var (i := 2) rfl (Or.inl rfl) nd_p.1 nd_p.2) pe_int (fun _ _ => rfl)) (pa_cons (pe_ix ix_seq (pe_var (i := 2) rfl (Or.inl rfl) nd_p.1 nd_p.2) pe_int (fun _ _ => rfl)) pa_nil))) (pe_var (i := 0) rfl (Or.inl rfl) nd_a.1 nd_a.2) rfl) pe_bl (nomark _)))) pss_nil) (pss_one (ps_ret (pe_cm os_is (pe_cm (os_inO hr tk) (pe_mak k_Ratio hr (by decide) tk rfl (pa_cons (pe_ix ix_seq (pe_var (i := 2) rfl (Or.inl rfl) nd_p.1 nd_p.2) pe_int (fun _ _ => rfl)) (pa_cons (pe_ix ix_seq (pe_var (i := 2) rfl (Or.inl rfl) nd_p.1 nd_p.2) pe_int (fun _ _ => rfl)) pa_nil))) (pe_var (i := 0) rfl (Or.inl rfl) nd_a.1 nd_a.2) rfl) pe_bl (nomark _))))), ?_⟩)
  rintro ds m K E - ⟨n, a, b, c, d, e, f, rfl, hn, h, h2, k⟩
  show Ws _ _ _ [some (spn C_Span C_Ratio (dv a b) (dv c d)), some (b4 a b c d), some (pr e f)] _ _
  try dsimp only [cx_G, cx_K]
  obtain ⟨q0, q1⟩ := h.q (show n ≤ 3900 by omega)
  obtain ⟨f0, f1⟩ := h.f (show n ≤ 3900 by omega)
  have f2 := h2.mono (show 1000 ≤ 3900 by decide)
  have q2 := f2.qb
  have nz : f ≠ 0 := by have := h2.pos; omega
  have bz : Bd 8000 f := h2.bb.mono (by decide)
  have r1 : dv e f < dv a b → ¬ (dv a b ≤ dv e f ∧ dv e f ≤ dv c d) := fun z w => Rat.not_le.mpr z w.1
  have r2 : dv c d < dv e f → ¬ (dv a b ≤ dv e f ∧ dv e f ≤ dv c d) := fun z w => Rat.not_le.mpr z w.2
  have r3 : ¬ dv e f < dv a b → ¬ dv c d < dv e f → (dv a b ≤ dv e f ∧ dv e f ≤ dv c d) := fun z w => ⟨Rat.not_lt.mp z, Rat.not_lt.mp w⟩
  walk_at "go_1"
  all_goals first
    | assumption
    | (rw [decide_eq_false (r1 ‹_›)]; exact k)
    | (rw [decide_eq_false (r2 ‹_›)]; exact k)
    | (rw [decide_eq_true (r3 ‹_› ‹_›)]; exact k)
def S_crossed : SpecD := fun ds m K _ => ∃ a b c d, ds = [pr a b, pr c d] ∧ Fr 292 a b ∧ Fr 292 c d ∧ dv a b < dv c d ∧ K (.bl true) m
theorem use_crossed {a b c d : Int} {m : Mu} {K : KT} {E : Ex → Mu → Prop} (h1 : Fr 292 a b) (h2 : Fr 292 c d) (lt : dv a b < dv c d) (k : K (.bl true) m) : S_crossed [pr a b, pr c d] m K E := ⟨a, b, c, d, rfl, h1, h2, lt, k⟩
local macro_rules | `(tactic| walk_at "useWe_2") => `(tactic| first | (with_reducible refine we_ratQ ?_) | (with_reducible refine we_spnX ?_) | fail)
local macro_rules | `(tactic| walk_at "sWe_2") => `(tactic| first
  | ((with_reducible refine we_var (d := ?d) ?hv ?hk); case hv => rfl)
  | (with_reducible first
    | refine we_cint ?_ | refine we_2 ?_ | refine we_fldF ?_ | refine we_cl0 ?_ | refine we_tup ?_ | refine we_1 ?_ | refine we_c2 ?_ | refine we_cbl ?_ | refine we_cnon ?_ | refine we_cty ?_ | refine we_cref ?_
    | refine we_op ?_ | refine we_andV ?_ | refine we_orV ?_ | refine we_notV ?_ | refine we_3 ?_ | refine we_ifx ?_ | refine we_cstr ?_ | refine we_clH ?_)
  | walk_at "useWe_2")
local macro_rules | `(tactic| walk_at "useW2_2") => `(tactic| first
  | (with_reducible refine w2_qeq (by assumption) (by decide) (by assumption) ?_) | (with_reducible refine w2_seq (by assumption) (by decide) (by assumption) ?_)
  | (with_reducible refine w2_seqQ (by assumption) (by decide) (by assumption) (by assumption) (by assumption) ?_) | (with_reducible refine w2_qeqS (by assumption) (by decide) (by assumption) (by assumption) (by assumption) ?_)
  | (with_reducible refine w2_seqL (by assumption) (by decide) (by assumption) (by constructor) ?_) | (with_reducible refine w2_seqR (by assumption) (by decide) (by assumption) (by constructor) ?_)
  | (with_reducible refine w2_addStr ?_ ?_) | (with_reducible refine w2_neSame ?_) | (with_reducible refine w2_eqSame ?_) | (with_reducible refine w2_eqHFI ?_) | (with_reducible refine w2_neHFI ?_)
  | (with_reducible refine w2_andO (by assumption) (by decide) .fixed .fixed ?_)
  | (with_reducible refine w2_addO (by assumption) (by decide) .fixed .fixed ?_) | (with_reducible refine w2_subO (by assumption) (by decide) .fixed .fixed ?_) | (with_reducible refine w2_mulO (by assumption) (by decide) .fixed .fixed ?_) | (with_reducible refine w1_negO (by assumption) (by decide) .fixed ?_) | (with_reducible refine w2_inO (by assumption) (by decide) .fixed ?_) | fail)
local macro_rules | `(tactic| walk_at "sW2_2") => `(tactic| first
  | (with_reducible first
    | refine w2_add ?_ | refine w2_sub ?_ | refine w2_mul ⟨?_, ?_⟩ | refine w2_fdiv ⟨?_, ?_⟩ | refine w2_mod ⟨?_, ?_⟩ | refine w2_pow ⟨?_, ?_⟩ | refine w2_eqI ?_ | refine w2_neI ?_ | refine w2_lt ?_ | refine w2_le ?_ | refine w2_gt ?_ | refine w2_ge ?_ | refine w2_eqFI ?_ | refine w2_neFI ?_)
  | ((with_reducible refine w2_ixT (d := ?d) ⟨?hv, ?hk⟩); case hv => rfl)
  | ((with_reducible refine w2_ixL (d := ?d) ⟨?hv, ?hk⟩); case hv => rfl)
  | ((with_reducible refine w2_ixM (d := ?d) .head ⟨?hv, ?hk⟩); case hv => rfl)
  | (with_reducible first
    | refine w2_eqIH ?_ | refine w2_neIH ?_ | refine w2_mulH ⟨?_, ?_⟩ | refine w2_addH ?_ | refine w2_subH ?_ | refine w2_isN ?_ | refine w2_notN ?_ | refine w2_isB ?_ | refine w2_notB ?_)
  | walk_at "useW2_2")
local macro_rules | `(tactic| walk_at "sWa_2") => `(tactic| with_reducible first | refine wa_nil ?_ | refine wa_cons ?_)
local macro_rules | `(tactic| walk_at "useWs_2") => `(tactic| first | (with_reducible refine ws_rs0 ?_) | (with_reducible refine ws_rs ?_) | fail)
local macro_rules | `(tactic| walk_at "sWs_2") => `(tactic| first
  | (with_reducible first | refine ws_seq ?_ | refine ws_ret ?_ | refine ws_asg ?_ | refine ws_next ?_ | refine ws_drop ?_ | refine ws_par ?_ | refine ws_par3 ?_ | refine ws_fldN ?_ | refine ws_brk ?_ | refine ws_cont ?_)
  | walk_at "useWs_2")
local macro_rules | `(tactic| walk_at "sWt_2") => `(tactic| with_reducible first | refine wt_test ?_ | refine wt_tr ?_ | refine wt_and ?_ | refine wt_or ?_ | refine wt_not ?_)
local macro_rules | `(tactic| walk_at "useWc_2") => `(tactic| first | (with_reducible refine wc_isEC (by assumption) (by assumption) ?_) | (with_reducible refine wc_isET (by assumption) (by assumption) ?_) | fail)
local macro_rules | `(tactic| walk_at "sWc_2") => `(tactic| first
  | (with_reducible first | refine wc_int ?_ | refine wc_abs ?_ | refine wc_min ?_ | refine wc_gcd ?_ | refine wc_isiT .int kit_ii ?_ | refine wc_isiT .int kit_ib ?_ | refine wc_len .lst ?_ | refine wc_len .tup ?_ | refine wc_strI ?_ ?_)
  | walk_at "useWc_2")
local macro_rules | `(tactic| walk_at "sWg_2") => `(tactic| with_reducible first | refine wg_name ?_ | refine wg_subM ?_ | refine wg_tup rfl ?_)
local macro_rules | `(tactic| walk_at "sW1_2") => `(tactic| first | (with_reducible refine w1_neg ?_) | walk_at "useW2_2")
local macro_rules | `(tactic| walk_at "sWgs_2") => `(tactic| with_reducible first | refine wgs_cons ?_ | refine wgs_nil ?_)
local macro_rules | `(tactic| walk_at "use_2") => `(tactic| first | (with_reducible refine RatQ.mk ?_ ?_ ?_) | (with_reducible refine SpnX.mk ?_ ?_ ?_ ?_) | (with_reducible refine use_equals ?_ ?_ ?_) | fail)
local macro_rules | `(tactic| walk_at "sX_2") => `(tactic| first
  | (with_reducible refine ⟨_, rfl, ?_⟩)
  | (with_reducible refine fld_top (by assumption) ?_) | (with_reducible refine fld_bottom (by assumption) ?_)
  | (with_reducible refine ⟨_, .bl, ?_⟩)
  | ((with_reducible refine ⟨?h, ?_⟩); case h => rfl)
  | (with_reducible refine ⟨_, _, rfl, ?_⟩)
  | (with_reducible refine ⟨_, _, _, rfl, ?_⟩)
  | walk_at "use_2"
  | (with_reducible refine setN_top (by assumption) ?_) | (with_reducible refine setN_bottom (by assumption) ?_)
  | ((with_reducible refine ⟨_, _, _, ?j, _, rfl, rfl, .head, ?h, .head, ?_⟩); case h => rfl)
  | fail)
local macro_rules | `(tactic| walk_at "st_2") => `(tactic| first
  | ((with_reducible show We _ _ _ _ _ _); walk_at "sWe_2")
  | ((with_reducible show W2 _ _ _ _ _ _ _ _); walk_at "sW2_2")
  | ((with_reducible show Wa _ _ _ _ _ _); walk_at "sWa_2")
  | ((with_reducible show Ws _ _ _ _ _ _); walk_at "sWs_2")
  | ((with_reducible show Wt _ _ _ _ _ _); walk_at "sWt_2")
  | ((with_reducible show Wc _ _ _ _ _ _ _); walk_at "sWc_2")
  | ((with_reducible show Wg _ _ _ _ _ _ _); walk_at "sWg_2")
  | ((with_reducible show W1 _ _ _ _ _ _ _); walk_at "sW1_2")
  | ((with_reducible show Wgs _ _ _ _ _ _ _); walk_at "sWgs_2")
  | walk_at "sX_2" | fail)
local macro_rules | `(tactic| walk_at "wif_2") => `(tactic| (with_reducible refine ws_if ?_))
local macro_rules | `(tactic| walk_at "br_2") => `(tactic| ((with_reducible refine ⟨fun hb => ?_, fun hb => ?_⟩) <;> (try simp only [decide_eq_true_eq, decide_eq_false_iff_not, Bool.not_eq_true', Bool.not_eq_false', Bool.and_eq_true, Bool.or_eq_true, reduceCtorEq, List.length_map, Bool.not_true, Bool.not_false, DL.isNon, not_true_eq_false, not_false_eq_true, Classical.not_not, List.all_cons, List.all_nil, id_eq, Bool.and_self, Bool.true_and, decide_true, decide_false] at hb)))
local macro_rules | `(tactic| walk_at "go_2") => `(tactic| repeat' (first | walk_at "st_2" | walk_at "wif_2" | walk_at "br_2" | fail))
theorem ok_crossed (T : Txt G C_Ratio C_Span C_Apart C_Crossed C_CarryError) (k_Ratio : Mak G 1 "Ratio" C_Ratio 3 (S_init C_Ratio) []) (kX_Span : Mak G 3 "Span" C_Span 3 (S_sinitX C_Span C_Ratio C_Crossed) []) (h__law_equals : CalH G 2 "_law_equals" 2 (S_equals C_Ratio)) {f : Addr} {fd : FuncData} (F : L2.Fun G.K "_law_crossed" "_law_crossed" s__law_crossed f fd) (b : L2.Binds G.K fd ["low", "high"] []) : Fnx G 5 f 2 S_crossed [] := by
  have k_Span := kX_Span
  refine fnx_of F sc__law_crossed rfl b .nil rfl (fun cdv A outer s H FF hr tk => ⟨_, (pss_cons (ps_tryD (i := 2) rfl rfl sc__law_crossed.nd rfl rfl ⟨rfl, nd_CarryError.1, .inl T.mg_CarryError⟩ tk (fun W1 pn1 xe1 tk1 po1 => (pss_one (ps_expr (pe_mak k_Span hr (by decide) tk1 rfl (pa_cons (pe_mak k_Ratio hr (by decide) tk1 rfl (pa_cons (pe_ix (r := rIx G.K) ix_seq (pe_var (i := 1) rfl (Or.inl rfl) nd_high.1 nd_high.2) pe_int (fun _ _ => rfl)) (pa_cons (pe_ix (r := rIx G.K) ix_seq (pe_var (i := 1) rfl (Or.inl rfl) nd_high.1 nd_high.2) pe_int (fun _ _ => rfl)) pa_nil))) (pa_cons (pe_mak k_Ratio hr (by decide) tk1 rfl (pa_cons (pe_ix (r := rIx G.K) ix_seq (pe_var (i := 0) rfl (Or.inl rfl) nd_low.1 nd_low.2) pe_int (fun _ _ => rfl)) (pa_cons (pe_ix (r := rIx G.K) ix_seq (pe_var (i := 0) rfl (Or.inl rfl) nd_low.1 nd_low.2) pe_int (fun _ _ => rfl)) pa_nil))) pa_nil)))))) (fun a1 oe1 cls1 d1 pn1 hz hf => (pss_cons (ps_if (PW.pt (pw_or (pt_not (pt_trS (pe_isE hz hf T.n_isinstance (pa_cons (pe_var (i := 2) rfl (Or.inl rfl) nd_e.1 nd_e.2) (pa_cons (pe_glob (v := .ref C_Crossed) (by rfl) T.mg_Crossed rfl) pa_nil))))) (pw_or (pt_not (pt_trS (pe_isE hz hf T.n_isinstance (pa_cons (pe_var (i := 2) rfl (Or.inl rfl) nd_e.1 nd_e.2) (pa_cons (pe_bltn (v := .ty "ValueError") (by rfl) T.n_ValueError bt_ValueError rfl) pa_nil))))) (pw_or1 (pt_trS (pe_isE hz hf T.n_isinstance (pa_cons (pe_var (i := 2) rfl (Or.inl rfl) nd_e.1 nd_e.2) (pa_cons (pe_glob (v := .ref C_Apart) (by rfl) T.mg_Apart rfl) pa_nil)))))))) (pss_one (ps_ret pe_bl)) pss_nil) (pss_one (ps_ret (pe_and (pe_clH h__law_equals (rH hr) (by decide) ⟨(a1, oe1), ⟨rfl, hotc hz hf⟩, List.mem_cons_self⟩ takes0N rfl (pa_cons (pe_xfD hz hf (pe_var (i := 2) rfl (Or.inl rfl) nd_e.1 nd_e.2)) (pa_cons (pe_var (i := 1) rfl (Or.inl rfl) nd_high.1 nd_high.2) pa_nil))) (pe_one (pe_clH h__law_equals (rH hr) (by decide) ⟨(a1, oe1), ⟨rfl, hotc hz hf⟩, List.mem_cons_self⟩ takes0N rfl (pa_cons (pe_xfD hz hf (pe_var (i := 2) rfl (Or.inl rfl) nd_e.1 nd_e.2)) (pa_cons (pe_var (i := 0) rfl (Or.inl rfl) nd_low.1 nd_low.2) pa_nil)))))))))) (pss_one (ps_ret pe_bl))), ?_⟩)
  rintro ds m K E - ⟨a, b, c, d, rfl, h1, h2, lt, k⟩
  show Ws _ _ _ [some (pr a b), some (pr c d), none] _ _
  try dsimp only [cx_G, cx_K]
  have XC := T.XC_Crossed
  have i1 := T.is_Crossed_Crossed
  have i2 := T.is_Crossed_Apart
  have i3 := T.isT_Crossed_ValueError
  refine ws_seq (ws_try fun W' => ?_)
  walk_at "go_2"
  · exact Int.ne_of_gt h2.pos
  · exact h2.bb.mono (by decide)
  · exact Int.ne_of_gt h1.pos
  · exact h1.bb.mono (by decide)
  · exact lt
  · exact h2.qb.mono (by decide)
  · exact h1.qb.mono (by decide)
  refine ⟨true, T.ex_Crossed_CarryError, fun _ x dd => ?_, fun z => nomatch z⟩
  walk_at "go_2"
  refine we_xf XC.xf T.no_Crossed_low ?_
  walk_at "go_2"
  refine ⟨_, _, _, rfl, fix_low, ?_⟩
  walk_at "go_2"
  · exact h2.mono (by decide)
  · rfl
  refine we_xf XC.xf T.no_Crossed_high ?_
  walk_at "go_2"
  refine ⟨_, _, _, rfl, fix_high, ?_⟩
  walk_at "go_2"
  · exact h1.mono (by decide)
  · rfl
  · exact k
local macro_rules | `(tactic| walk_at "useWe_3") => `(tactic| first | (with_reducible refine we_ratQ ?_) | (with_reducible refine we_spnX ?_) | fail)
local macro_rules | `(tactic| walk_at "sWe_3") => `(tactic| first
  | ((with_reducible refine we_var (d := ?d) ?hv ?hk); case hv => rfl)
  | (with_reducible first
    | refine we_cint ?_ | refine we_2 ?_ | refine we_fldF ?_ | refine we_cl0 ?_ | refine we_tup ?_ | refine we_1 ?_ | refine we_c2 ?_ | refine we_cbl ?_ | refine we_cnon ?_ | refine we_cty ?_ | refine we_cref ?_
    | refine we_op ?_ | refine we_andV ?_ | refine we_orV ?_ | refine we_notV ?_ | refine we_3 ?_ | refine we_ifx ?_ | refine we_cstr ?_ | refine we_clH ?_)
  | walk_at "useWe_3")
local macro_rules | `(tactic| walk_at "useW2_3") => `(tactic| first
  | (with_reducible refine w2_qeq (by assumption) (by decide) (by assumption) ?_) | (with_reducible refine w2_seq (by assumption) (by decide) (by assumption) ?_)
  | (with_reducible refine w2_seqQ (by assumption) (by decide) (by assumption) (by assumption) (by assumption) ?_) | (with_reducible refine w2_qeqS (by assumption) (by decide) (by assumption) (by assumption) (by assumption) ?_)
  | (with_reducible refine w2_seqL (by assumption) (by decide) (by assumption) (by constructor) ?_) | (with_reducible refine w2_seqR (by assumption) (by decide) (by assumption) (by constructor) ?_)
  | (with_reducible refine w2_addStr ?_ ?_) | (with_reducible refine w2_neSame ?_) | (with_reducible refine w2_eqSame ?_) | (with_reducible refine w2_eqHFI ?_) | (with_reducible refine w2_neHFI ?_)
  | (with_reducible refine w2_andO (by assumption) (by decide) .fixed .fixed ?_)
  | (with_reducible refine w2_addO (by assumption) (by decide) .fixed .fixed ?_) | (with_reducible refine w2_subO (by assumption) (by decide) .fixed .fixed ?_) | (with_reducible refine w2_mulO (by assumption) (by decide) .fixed .fixed ?_) | (with_reducible refine w1_negO (by assumption) (by decide) .fixed ?_) | (with_reducible refine w2_inO (by assumption) (by decide) .fixed ?_) | fail)
local macro_rules | `(tactic| walk_at "sW2_3") => `(tactic| first
  | (with_reducible first
    | refine w2_add ?_ | refine w2_sub ?_ | refine w2_mul ⟨?_, ?_⟩ | refine w2_fdiv ⟨?_, ?_⟩ | refine w2_mod ⟨?_, ?_⟩ | refine w2_pow ⟨?_, ?_⟩ | refine w2_eqI ?_ | refine w2_neI ?_ | refine w2_lt ?_ | refine w2_le ?_ | refine w2_gt ?_ | refine w2_ge ?_ | refine w2_eqFI ?_ | refine w2_neFI ?_)
  | ((with_reducible refine w2_ixT (d := ?d) ⟨?hv, ?hk⟩); case hv => rfl)
  | ((with_reducible refine w2_ixL (d := ?d) ⟨?hv, ?hk⟩); case hv => rfl)
  | ((with_reducible refine w2_ixM (d := ?d) .head ⟨?hv, ?hk⟩); case hv => rfl)
  | (with_reducible first
    | refine w2_eqIH ?_ | refine w2_neIH ?_ | refine w2_mulH ⟨?_, ?_⟩ | refine w2_addH ?_ | refine w2_subH ?_ | refine w2_isN ?_ | refine w2_notN ?_ | refine w2_isB ?_ | refine w2_notB ?_)
  | walk_at "useW2_3")
local macro_rules | `(tactic| walk_at "sWa_3") => `(tactic| with_reducible first | refine wa_nil ?_ | refine wa_cons ?_)
local macro_rules | `(tactic| walk_at "useWs_3") => `(tactic| first | (with_reducible refine ws_rs0 ?_) | (with_reducible refine ws_rs ?_) | fail)
local macro_rules | `(tactic| walk_at "sWs_3") => `(tactic| first
  | (with_reducible first | refine ws_seq ?_ | refine ws_ret ?_ | refine ws_asg ?_ | refine ws_next ?_ | refine ws_drop ?_ | refine ws_par ?_ | refine ws_par3 ?_ | refine ws_fldN ?_ | refine ws_brk ?_ | refine ws_cont ?_)
  | walk_at "useWs_3")
local macro_rules | `(tactic| walk_at "sWt_3") => `(tactic| with_reducible first | refine wt_test ?_ | refine wt_tr ?_ | refine wt_and ?_ | refine wt_or ?_ | refine wt_not ?_)
local macro_rules | `(tactic| walk_at "useWc_3") => `(tactic| first | (with_reducible refine wc_isEC (by assumption) (by assumption) ?_) | (with_reducible refine wc_isET (by assumption) (by assumption) ?_) | fail)
local macro_rules | `(tactic| walk_at "sWc_3") => `(tactic| first
  | (with_reducible first | refine wc_int ?_ | refine wc_abs ?_ | refine wc_min ?_ | refine wc_gcd ?_ | refine wc_isiT .int kit_ii ?_ | refine wc_isiT .int kit_ib ?_ | refine wc_len .lst ?_ | refine wc_len .tup ?_ | refine wc_strI ?_ ?_)
  | walk_at "useWc_3")
local macro_rules | `(tactic| walk_at "sWg_3") => `(tactic| with_reducible first | refine wg_name ?_ | refine wg_subM ?_ | refine wg_tup rfl ?_)
local macro_rules | `(tactic| walk_at "sW1_3") => `(tactic| first | (with_reducible refine w1_neg ?_) | walk_at "useW2_3")
local macro_rules | `(tactic| walk_at "sWgs_3") => `(tactic| with_reducible first | refine wgs_cons ?_ | refine wgs_nil ?_)
local macro_rules | `(tactic| walk_at "use_3") => `(tactic| first | (with_reducible refine use_order (by assumption) ?_) | fail)
local macro_rules | `(tactic| walk_at "sX_3") => `(tactic| first
  | (with_reducible refine ⟨_, rfl, ?_⟩)
  | (with_reducible refine fld_top (by assumption) ?_) | (with_reducible refine fld_bottom (by assumption) ?_)
  | (with_reducible refine ⟨_, .bl, ?_⟩)
  | ((with_reducible refine ⟨?h, ?_⟩); case h => rfl)
  | (with_reducible refine ⟨_, _, rfl, ?_⟩)
  | (with_reducible refine ⟨_, _, _, rfl, ?_⟩)
  | walk_at "use_3"
  | (with_reducible refine setN_top (by assumption) ?_) | (with_reducible refine setN_bottom (by assumption) ?_)
  | ((with_reducible refine ⟨_, _, _, ?j, _, rfl, rfl, .head, ?h, .head, ?_⟩); case h => rfl)
  | fail)
local macro_rules | `(tactic| walk_at "st_3") => `(tactic| first
  | ((with_reducible show We _ _ _ _ _ _); walk_at "sWe_3")
  | ((with_reducible show W2 _ _ _ _ _ _ _ _); walk_at "sW2_3")
  | ((with_reducible show Wa _ _ _ _ _ _); walk_at "sWa_3")
  | ((with_reducible show Ws _ _ _ _ _ _); walk_at "sWs_3")
  | ((with_reducible show Wt _ _ _ _ _ _); walk_at "sWt_3")
  | ((with_reducible show Wc _ _ _ _ _ _ _); walk_at "sWc_3")
  | ((with_reducible show Wg _ _ _ _ _ _ _); walk_at "sWg_3")
  | ((with_reducible show W1 _ _ _ _ _ _ _); walk_at "sW1_3")
  | ((with_reducible show Wgs _ _ _ _ _ _ _); walk_at "sWgs_3")
  | walk_at "sX_3" | fail)
local macro_rules | `(tactic| walk_at "wif_3") => `(tactic| (with_reducible refine ws_if ?_))
local macro_rules | `(tactic| walk_at "br_3") => `(tactic| ((with_reducible refine ⟨fun hb => ?_, fun hb => ?_⟩) <;> (try simp only [decide_eq_true_eq, decide_eq_false_iff_not, Bool.not_eq_true', Bool.not_eq_false', Bool.and_eq_true, Bool.or_eq_true, reduceCtorEq, List.length_map, Bool.not_true, Bool.not_false, DL.isNon, not_true_eq_false, not_false_eq_true, Classical.not_not, List.all_cons, List.all_nil, id_eq, Bool.and_self, Bool.true_and, decide_true, decide_false] at hb)))
local macro_rules | `(tactic| walk_at "go_3") => `(tactic| repeat' (first | walk_at "st_3" | walk_at "wif_3" | walk_at "br_3" | fail))
theorem ok_two (T : Txt G C_Ratio C_Span C_Apart C_Crossed C_CarryError) (c__law_order : Cal G 3 "_law_order" 4 (S_order C_Span C_Ratio) []) (c__law_common : Cal G 7 "_law_common" 4 (S_order C_Span C_Ratio) []) (c__law_same : Cal G 3 "_law_same" 4 (S_order C_Span C_Ratio) []) {f : Addr} {fd : FuncData} (F : L2.Fun G.K "_law_two" "_law_two" s__law_two f fd) (b : L2.Binds G.K fd ["a", "b", "s", "t"] []) : Fnx G 8 f 4 (S_order C_Span C_Ratio) [] := by
  refine fnx_of F sc__law_two rfl b .nil rfl (fun cdv A outer s H FF hr tk => ⟨_, (pss_cons (ps_if (PW.pt (pw_or (pt_not (pt_tr (pe_cl c__law_order hr (by decide) tk rfl (pa_cons (pe_var (i := 0) rfl (Or.inl rfl) nd_a.1 nd_a.2) (pa_cons (pe_var (i := 1) rfl (Or.inl rfl) nd_b.1 nd_b.2) (pa_cons (pe_var (i := 2) rfl (Or.inl rfl) nd_s.1 nd_s.2) (pa_cons (pe_var (i := 3) rfl (Or.inl rfl) nd_t.1 nd_t.2) pa_nil))))))) (pw_or1 (pt_not (pt_tr (pe_cl c__law_order hr (by decide) tk rfl (pa_cons (pe_var (i := 1) rfl (Or.inl rfl) nd_b.1 nd_b.2) (pa_cons (pe_var (i := 0) rfl (Or.inl rfl) nd_a.1 nd_a.2) (pa_cons (pe_var (i := 3) rfl (Or.inl rfl) nd_t.1 nd_t.2) (pa_cons (pe_var (i := 2) rfl (Or.inl rfl) nd_s.1 nd_s.2) pa_nil)))))))))) (pss_one (ps_ret pe_bl)) pss_nil) (pss_cons (ps_if (PW.pt (pw_or (pt_not (pt_tr (pe_cl c__law_common hr (by decide) tk rfl (pa_cons (pe_var (i := 0) rfl (Or.inl rfl) nd_a.1 nd_a.2) (pa_cons (pe_var (i := 1) rfl (Or.inl rfl) nd_b.1 nd_b.2) (pa_cons (pe_var (i := 2) rfl (Or.inl rfl) nd_s.1 nd_s.2) (pa_cons (pe_var (i := 3) rfl (Or.inl rfl) nd_t.1 nd_t.2) pa_nil))))))) (pw_or1 (pt_not (pt_tr (pe_cl c__law_common hr (by decide) tk rfl (pa_cons (pe_var (i := 1) rfl (Or.inl rfl) nd_b.1 nd_b.2) (pa_cons (pe_var (i := 0) rfl (Or.inl rfl) nd_a.1 nd_a.2) (pa_cons (pe_var (i := 3) rfl (Or.inl rfl) nd_t.1 nd_t.2) (pa_cons (pe_var (i := 2) rfl (Or.inl rfl) nd_s.1 nd_s.2) pa_nil)))))))))) (pss_one (ps_ret pe_bl)) pss_nil) (pss_one (ps_ret (pe_and (pe_cl c__law_same hr (by decide) tk rfl (pa_cons (pe_var (i := 0) rfl (Or.inl rfl) nd_a.1 nd_a.2) (pa_cons (pe_var (i := 1) rfl (Or.inl rfl) nd_b.1 nd_b.2) (pa_cons (pe_var (i := 2) rfl (Or.inl rfl) nd_s.1 nd_s.2) (pa_cons (pe_var (i := 3) rfl (Or.inl rfl) nd_t.1 nd_t.2) pa_nil))))) (pe_one (pe_cl c__law_same hr (by decide) tk rfl (pa_cons (pe_var (i := 1) rfl (Or.inl rfl) nd_b.1 nd_b.2) (pa_cons (pe_var (i := 0) rfl (Or.inl rfl) nd_a.1 nd_a.2) (pa_cons (pe_var (i := 3) rfl (Or.inl rfl) nd_t.1 nd_t.2) (pa_cons (pe_var (i := 2) rfl (Or.inl rfl) nd_s.1 nd_s.2) pa_nil))))))))))), ?_⟩)
  rintro ds m K E - ⟨a, b, c, d, e, f, g, h, rfl, l, k⟩
  show Ws _ _ _ [some (spn C_Span C_Ratio (dv a b) (dv c d)), some (spn C_Span C_Ratio (dv e f) (dv g h)), some (b4 a b c d), some (b4 e f g h)] _ _
  try dsimp only [cx_G, cx_K]
  have l2 : Four e f g h a b c d := ⟨l.t, l.s⟩
  walk_at "go_3"
  all_goals exact k
def S_alone (S C : Addr) : SpecD := fun ds m K _ => ∃ n a b c d e f, ds = [spn S C (dv a b) (dv c d), b4 a b c d, pr e f] ∧ n ≤ 292 ∧ Two2 n a b c d ∧ Fr 41 e f ∧ K (.bl true) m
theorem use_alone {S C : Addr} {n : Nat} {a b c d e f : Int} {m : Mu} {K : KT} {E : Ex → Mu → Prop} (hn : n ≤ 292) (h : Two2 n a b c d) (h2 : Fr 41 e f) (k : K (.bl true) m) : S_alone S C [spn S C (dv a b) (dv c d), b4 a b c d, pr e f] m K E := ⟨n, a, b, c, d, e, f, rfl, hn, h, h2, k⟩
local macro_rules | `(tactic| walk_at "useWe_4") => `(tactic| first | (with_reducible refine we_mt ?_) | (with_reducible refine we_lst ?_) | fail)
local macro_rules | `(tactic| walk_at "sWe_4") => `(tactic| first
  | ((with_reducible refine we_var (d := ?d) ?hv ?hk); case hv => rfl)
  | (with_reducible first
    | refine we_cint ?_ | refine we_2 ?_ | refine we_fldF ?_ | refine we_cl0 ?_ | refine we_tup ?_ | refine we_1 ?_ | refine we_c2 ?_ | refine we_cbl ?_ | refine we_cnon ?_ | refine we_cty ?_ | refine we_cref ?_
    | refine we_op ?_ | refine we_andV ?_ | refine we_orV ?_ | refine we_notV ?_ | refine we_3 ?_ | refine we_ifx ?_ | refine we_cstr ?_ | refine we_clH ?_)
  | walk_at "useWe_4")
local macro_rules | `(tactic| walk_at "useW2_4") => `(tactic| first
  | (with_reducible refine w2_addStr ?_ ?_) | (with_reducible refine w2_neSame ?_)
  | (with_reducible refine w2_seqQ (by assumption) (by decide) (by assumption) (by assumption) (by assumption) ?_) | (with_reducible refine w2_qeqS (by assumption) (by decide) (by assumption) (by assumption) (by assumption) ?_)
  | (with_reducible refine w2_seqL (by assumption) (by decide) (by assumption) (by constructor) ?_) | (with_reducible refine w2_seqR (by assumption) (by decide) (by assumption) (by constructor) ?_)
  | fail)
local macro_rules | `(tactic| walk_at "sW2_4") => `(tactic| first
  | (with_reducible first
    | refine w2_add ?_ | refine w2_sub ?_ | refine w2_mul ⟨?_, ?_⟩ | refine w2_fdiv ⟨?_, ?_⟩ | refine w2_mod ⟨?_, ?_⟩ | refine w2_pow ⟨?_, ?_⟩ | refine w2_eqI ?_ | refine w2_neI ?_ | refine w2_lt ?_ | refine w2_le ?_ | refine w2_gt ?_ | refine w2_ge ?_ | refine w2_eqFI ?_ | refine w2_neFI ?_)
  | ((with_reducible refine w2_ixT (d := ?d) ⟨?hv, ?hk⟩); case hv => rfl)
  | ((with_reducible refine w2_ixL (d := ?d) ⟨?hv, ?hk⟩); case hv => rfl)
  | ((with_reducible refine w2_ixM (d := ?d) .head ⟨?hv, ?hk⟩); case hv => rfl)
  | (with_reducible first
    | refine w2_eqIH ?_ | refine w2_neIH ?_ | refine w2_mulH ⟨?_, ?_⟩ | refine w2_addH ?_ | refine w2_subH ?_ | refine w2_isN ?_ | refine w2_notN ?_ | refine w2_isB ?_ | refine w2_notB ?_)
  | walk_at "useW2_4")
local macro_rules | `(tactic| walk_at "sWa_4") => `(tactic| with_reducible first | refine wa_nil ?_ | refine wa_cons ?_)
local macro_rules | `(tactic| walk_at "useWs_4") => `(tactic| first | (with_reducible refine ws_rs0 ?_) | (with_reducible refine ws_rs ?_) | fail)
local macro_rules | `(tactic| walk_at "sWs_4") => `(tactic| first
  | (with_reducible first | refine ws_seq ?_ | refine ws_ret ?_ | refine ws_asg ?_ | refine ws_next ?_ | refine ws_drop ?_ | refine ws_par ?_ | refine ws_par3 ?_ | refine ws_fldN ?_ | refine ws_brk ?_ | refine ws_cont ?_)
  | walk_at "useWs_4")
local macro_rules | `(tactic| walk_at "sWt_4") => `(tactic| with_reducible first | refine wt_test ?_ | refine wt_tr ?_ | refine wt_and ?_ | refine wt_or ?_ | refine wt_not ?_)
local macro_rules | `(tactic| walk_at "useWc_4") => `(tactic| first | (with_reducible refine wc_isiT .str kit_ss ?_) | fail)
local macro_rules | `(tactic| walk_at "sWc_4") => `(tactic| first
  | (with_reducible first | refine wc_int ?_ | refine wc_abs ?_ | refine wc_min ?_ | refine wc_gcd ?_ | refine wc_isiT .int kit_ii ?_ | refine wc_isiT .int kit_ib ?_ | refine wc_len .lst ?_ | refine wc_len .tup ?_ | refine wc_strI ?_ ?_)
  | walk_at "useWc_4")
local macro_rules | `(tactic| walk_at "sWg_4") => `(tactic| with_reducible first | refine wg_name ?_ | refine wg_subM ?_ | refine wg_tup rfl ?_)
local macro_rules | `(tactic| walk_at "sW1_4") => `(tactic| first | (with_reducible refine w1_neg ?_) | walk_at "useW2_4")
local macro_rules | `(tactic| walk_at "sWgs_4") => `(tactic| with_reducible first | refine wgs_cons ?_ | refine wgs_nil ?_)
local macro_rules | `(tactic| walk_at "use_4") => `(tactic| first
  | (with_reducible refine fld_low (by assumption) ?_) | (with_reducible refine fld_high (by assumption) ?_) | (with_reducible refine mt_of0 (by assumption) (by decide) ?_)
  | (with_reducible refine use_less ?_ ?_ ?_) | (with_reducible refine use_plus ?_ ?_ ?_) | (with_reducible refine use_minus ?_ ?_ ?_) | (with_reducible refine use_equals ?_ ?_ ?_) | (with_reducible refine use_is_span ?_ ?_ ?_ ?_ ?_) | (with_reducible refine use_written ?_ ?_) | (with_reducible refine use_slen ?_ ?_ ?_) | (with_reducible refine use_stextU ?_ ?_ ?_)
  | (with_reducible refine use_contains (by assumption) (by assumption) ?_ ?_) | (with_reducible refine use_crossed ?_ ?_ ?_ ?_) | (with_reducible refine use_order (by assumption) ?_) | fail)
local macro_rules | `(tactic| walk_at "sX_4") => `(tactic| first
  | (with_reducible refine ⟨_, rfl, ?_⟩)
  | (with_reducible refine fld_top (by assumption) ?_) | (with_reducible refine fld_bottom (by assumption) ?_)
  | (with_reducible refine ⟨_, .bl, ?_⟩)
  | ((with_reducible refine ⟨?h, ?_⟩); case h => rfl)
  | (with_reducible refine ⟨_, _, rfl, ?_⟩)
  | (with_reducible refine ⟨_, _, _, rfl, ?_⟩)
  | walk_at "use_4"
  | (with_reducible refine setN_top (by assumption) ?_) | (with_reducible refine setN_bottom (by assumption) ?_)
  | ((with_reducible refine ⟨_, _, _, ?j, _, rfl, rfl, .head, ?h, .head, ?_⟩); case h => rfl)
  | fail)
local macro_rules | `(tactic| walk_at "st_4") => `(tactic| first
  | ((with_reducible show We _ _ _ _ _ _); walk_at "sWe_4")
  | ((with_reducible show W2 _ _ _ _ _ _ _ _); walk_at "sW2_4")
  | ((with_reducible show Wa _ _ _ _ _ _); walk_at "sWa_4")
  | ((with_reducible show Ws _ _ _ _ _ _); walk_at "sWs_4")
  | ((with_reducible show Wt _ _ _ _ _ _); walk_at "sWt_4")
  | ((with_reducible show Wc _ _ _ _ _ _ _); walk_at "sWc_4")
  | ((with_reducible show Wg _ _ _ _ _ _ _); walk_at "sWg_4")
  | ((with_reducible show W1 _ _ _ _ _ _ _); walk_at "sW1_4")
  | ((with_reducible show Wgs _ _ _ _ _ _ _); walk_at "sWgs_4")
  | walk_at "sX_4" | fail)
local macro_rules | `(tactic| walk_at "wif_4") => `(tactic| (with_reducible refine ws_if ?_))
local macro_rules | `(tactic| walk_at "br_4") => `(tactic| ((with_reducible refine ⟨fun hb => ?_, fun hb => ?_⟩) <;> (try simp only [decide_eq_true_eq, decide_eq_false_iff_not, Bool.not_eq_true', Bool.not_eq_false', Bool.and_eq_true, Bool.or_eq_true, reduceCtorEq, List.length_map, Bool.not_true, Bool.not_false, DL.isNon, not_true_eq_false, not_false_eq_true, Classical.not_not, List.all_cons, List.all_nil, id_eq, Bool.and_self, Bool.true_and, decide_true, decide_false] at hb)))
local macro_rules | `(tactic| walk_at "go_4") => `(tactic| repeat' (first | walk_at "st_4" | walk_at "wif_4" | walk_at "br_4" | fail))
theorem ok_alone (T : Txt G C_Ratio C_Span C_Apart C_Crossed C_CarryError) (o_Ratio___eq__ : Opr G 1 C_Ratio "__eq__" 2 (S_qeq G C_Ratio)) (o_Span___eq__ : Opr G 2 C_Span "__eq__" 2 (S_seq G C_Span C_Ratio)) (m_Span_length : Met G 4 C_Span ["low", "high"] "length" 1 (S_slen C_Span C_Ratio) []) (m_Span_text : Met G 2 C_Span ["low", "high"] "text" 1 (S_stext C_Span C_Ratio) []) (c__law_less : Cal G 1 "_law_less" 2 S_less []) (c__law_plus : Cal G 1 "_law_plus" 2 S_plus []) (c__law_minus : Cal G 1 "_law_minus" 2 S_minus []) (c__law_written : Cal G 2 "_law_written" 1 S_written []) (c__law_equals : Cal G 2 "_law_equals" 2 (S_equals C_Ratio) []) (c__law_is_span : Cal G 3 "_law_is_span" 3 (S_is_span C_Span C_Ratio) []) (c__law_contains : Cal G 3 "_law_contains" 3 (S_contains C_Span C_Ratio) []) (c__law_crossed : Cal G 5 "_law_crossed" 2 S_crossed []) (c__law_two : Cal G 8 "_law_two" 4 (S_order C_Span C_Ratio) []) {f : Addr} {fd : FuncData} (F : L2.Fun G.K "_law_alone" "_law_alone" s__law_alone f fd) (b : L2.Binds G.K fd ["a", "s", "step"] []) : Fnx G 9 f 3 (S_alone C_Span C_Ratio) [] := by
  refine fnx_of F sc__law_alone rfl b .nil rfl (fun cdv A outer s H FF hr tk => ⟨_, (pss_cons (ps_if (pt_not (pt_tr (pe_cl c__law_is_span hr (by decide) tk rfl (pa_cons (pe_var (i := 0) rfl (Or.inl rfl) nd_a.1 nd_a.2) (pa_cons (pe_ix ix_seq (pe_var (i := 1) rfl (Or.inl rfl) nd_s.1 nd_s.2) pe_int (fun _ _ => rfl)) (pa_cons (pe_ix ix_seq (pe_var (i := 1) rfl (Or.inl rfl) nd_s.1 nd_s.2) pe_int (fun _ _ => rfl)) pa_nil)))))) (pss_one (ps_ret pe_bl)) pss_nil) (pss_cons (ps_if (pt_not (pt_tr (pe_cl c__law_equals hr (by decide) tk rfl (pa_cons (pe_mth0 hr tk (pe_var (i := 0) rfl (Or.inl rfl) nd_a.1 nd_a.2)) (pa_cons (pe_cl c__law_minus hr (by decide) tk rfl (pa_cons (pe_ix ix_seq (pe_var (i := 1) rfl (Or.inl rfl) nd_s.1 nd_s.2) pe_int (fun _ _ => rfl)) (pa_cons (pe_ix ix_seq (pe_var (i := 1) rfl (Or.inl rfl) nd_s.1 nd_s.2) pe_int (fun _ _ => rfl)) pa_nil))) pa_nil))))) (pss_one (ps_ret pe_bl)) pss_nil) (pss_cons (ps_set (i := 3) sc__law_alone.nd rfl (Or.inl rfl) (pe_bin (os_add hr tk) (pe_bin (os_add hr tk) (pe_bin (os_add hr tk) (pe_bin (os_add hr tk) pe_str (pe_cl c__law_written hr (by decide) tk rfl (pa_cons (pe_ix ix_seq (pe_var (i := 1) rfl (Or.inl rfl) nd_s.1 nd_s.2) pe_int (fun _ _ => rfl)) pa_nil))) pe_str) (pe_cl c__law_written hr (by decide) tk rfl (pa_cons (pe_ix ix_seq (pe_var (i := 1) rfl (Or.inl rfl) nd_s.1 nd_s.2) pe_int (fun _ _ => rfl)) pa_nil))) pe_str)) (pss_cons (ps_set (i := 4) sc__law_alone.nd rfl (Or.inl rfl) (pe_mth0 hr tk (pe_var (i := 0) rfl (Or.inl rfl) nd_a.1 nd_a.2))) (pss_cons (ps_if (PW.pt (pw_or (pt_not (pt_tr (pe_cb cs_isi rfl T.n_isinstance bt_isinstance (pa_cons (pe_var (i := 4) rfl (Or.inl rfl) nd_text.1 nd_text.2) (pa_cons (pe_bltn (v := .ty "str") rfl T.n_str bt_str rfl) pa_nil))))) (pw_or1 (pt_cm (os_neF hr tk) (pe_var (i := 4) rfl (Or.inl rfl) nd_text.1 nd_text.2) (pe_var (i := 3) rfl (Or.inl rfl) nd_row.1 nd_row.2) (nomark _))))) (pss_one (ps_ret pe_bl)) pss_nil) (pss_cons (ps_for (passes_of rfl) rfl (pi_seq (pe_lst (pa_cons (pe_fld (pe_var (i := 0) rfl (Or.inl rfl) nd_a.1 nd_a.2) rfl) (pa_cons (pe_tup (pa_cons (pe_fld (pe_var (i := 0) rfl (Or.inl rfl) nd_a.1 nd_a.2) rfl) (pa_cons (pe_fld (pe_var (i := 0) rfl (Or.inl rfl) nd_a.1 nd_a.2) rfl) pa_nil))) (pa_cons (pe_var (i := 3) rfl (Or.inl rfl) nd_row.1 nd_row.2) (pa_cons pe_non pa_nil)))))) (pg_name (i := 5) sc__law_alone.nd rfl (Or.inl rfl)) (pss_one (ps_if (PW.pt (pw_or (pt_cm os_isnot (pe_cm (os_eqF hr tk) (pe_var (i := 0) rfl (Or.inl rfl) nd_a.1 nd_a.2) (pe_var (i := 5) rfl (Or.inl rfl) nd_other.1 nd_other.2) (nomark _)) pe_bl (nomark _)) (pw_or1 (pt_cm os_isnot (pe_cm (os_eqF hr tk) (pe_var (i := 5) rfl (Or.inl rfl) nd_other.1 nd_other.2) (pe_var (i := 0) rfl (Or.inl rfl) nd_a.1 nd_a.2) (nomark _)) pe_bl (nomark _))))) (pss_one (ps_ret pe_bl)) pss_nil))) (pss_cons (ps_for (passes_of rfl) rfl (pi_seq (pe_lst (pa_cons (pe_cl c__law_minus hr (by decide) tk rfl (pa_cons (pe_ix ix_seq (pe_var (i := 1) rfl (Or.inl rfl) nd_s.1 nd_s.2) pe_int (fun _ _ => rfl)) (pa_cons (pe_var (i := 2) rfl (Or.inl rfl) nd_step.1 nd_step.2) pa_nil))) (pa_cons (pe_cl c__law_plus hr (by decide) tk rfl (pa_cons (pe_ix ix_seq (pe_var (i := 1) rfl (Or.inl rfl) nd_s.1 nd_s.2) pe_int (fun _ _ => rfl)) (pa_cons (pe_var (i := 2) rfl (Or.inl rfl) nd_step.1 nd_step.2) pa_nil))) pa_nil)))) (pg_name (i := 6) sc__law_alone.nd rfl (Or.inl rfl)) (pss_one (ps_if (pt_not (pt_tr (pe_cl c__law_contains hr (by decide) tk rfl (pa_cons (pe_var (i := 0) rfl (Or.inl rfl) nd_a.1 nd_a.2) (pa_cons (pe_var (i := 1) rfl (Or.inl rfl) nd_s.1 nd_s.2) (pa_cons (pe_var (i := 6) rfl (Or.inl rfl) nd_p.1 nd_p.2) pa_nil)))))) (pss_one (ps_ret pe_bl)) pss_nil))) (pss_cons (ps_if (PW.pt (pw_and (pt_tr (pe_cl c__law_less hr (by decide) tk rfl (pa_cons (pe_ix ix_seq (pe_var (i := 1) rfl (Or.inl rfl) nd_s.1 nd_s.2) pe_int (fun _ _ => rfl)) (pa_cons (pe_ix ix_seq (pe_var (i := 1) rfl (Or.inl rfl) nd_s.1 nd_s.2) pe_int (fun _ _ => rfl)) pa_nil)))) (pw_and1 (pt_not (pt_tr (pe_cl c__law_crossed hr (by decide) tk rfl (pa_cons (pe_ix ix_seq (pe_var (i := 1) rfl (Or.inl rfl) nd_s.1 nd_s.2) pe_int (fun _ _ => rfl)) (pa_cons (pe_ix ix_seq (pe_var (i := 1) rfl (Or.inl rfl) nd_s.1 nd_s.2) pe_int (fun _ _ => rfl)) pa_nil)))))))) (pss_one (ps_ret pe_bl)) pss_nil) (pss_one (ps_ret (pe_cl c__law_two hr (by decide) tk rfl (pa_cons (pe_var (i := 0) rfl (Or.inl rfl) nd_a.1 nd_a.2) (pa_cons (pe_var (i := 0) rfl (Or.inl rfl) nd_a.1 nd_a.2) (pa_cons (pe_var (i := 1) rfl (Or.inl rfl) nd_s.1 nd_s.2) (pa_cons (pe_var (i := 1) rfl (Or.inl rfl) nd_s.1 nd_s.2) pa_nil))))))))))))))), ?_⟩)
  rintro ds m K E - ⟨n, a, b, c, d, e, f, rfl, hn, h, h2, k⟩
  let row : D := .str (Str.ofString "[" ++ qtext (dv a b) ++ Str.ofString ", " ++ qtext (dv c d) ++ Str.ofString "]")
  let R0 : Option D → Option D → Option D → Option D → Rho := fun o1 o2 o3 o4 => [some (spn C_Span C_Ratio (dv a b) (dv c d)), some (b4 a b c d), some (pr e f), o1, o2, o3, o4]
  show Ws _ _ _ (R0 none none none none) _ _
  try dsimp only [cx_G, cx_K]
  have R := T.R_Ratio
  have RI := R.ins
  have S := T.S_Span
  have SI := S.ins
  have kd1 := T.kinds_Ratio
  have kd2 := T.kinds_Span
  have nf1 := T.nf_Span_Ratio
  have nf2 := T.nf_Ratio_Span
  have it1 := T.is_Span_Ratio
  have it2 := T.is_Ratio_Span
  have hh : Two2 292 a b c d := ⟨h.l.mono hn, h.h.mono hn, h.le⟩
  have q0 : Qb 1900 (dv a b) := hh.l.qb.mono (by decide)
  have q1 : Qb 1900 (dv c d) := hh.h.qb.mono (by decide)
  obtain ⟨p0, p1⟩ := hh.q (show 292 ≤ 3900 by decide)
  obtain ⟨f0, f1⟩ := hh.f (show 292 ≤ 3900 by decide)
  obtain ⟨g0, g1⟩ := hh.f (show 292 ≤ 1000 by decide)
  obtain ⟨j0, j1⟩ := hh.f (show 292 ≤ 292 by decide)
  have fst := h2.mono (show 41 ≤ 3900 by decide)
  have l0 := qtext_len q0
  have l1 := qtext_len q1
  have fm : Fr 1000 (c * b - a * d) (d * b) := (j1.minus j0).mono (by decide)
  have em : dv (c * b - a * d) (d * b) = dv c d - dv a b := (sub_dv (by have := h.h.pos; omega) (by have := h.l.pos; omega)).symm
  have fl : Fr 1000 (a * f - e * b) (b * f) := (j0.minus h2).mono (by decide)
  have fh : Fr 1000 (c * f + e * d) (d * f) := (j1.plus h2).mono (by decide)
  have four : Four a b c d a b c d := ⟨hh, hh⟩
  walk_at "go_4"
  all_goals try first | assumption | (with_reducible rfl) | (with_reducible exact stext_ok1 l0) | (with_reducible exact stext_ok2 l0) | (with_reducible exact stext_ok3 l0 l1) | (with_reducible exact stext_ok4 l0 l1)
  refine ws_seqI ?_
  walk_at "go_4"
  refine ⟨_, fun _ r' m' => m' = m ∧ ∃ o3, r' = R0 (some row) (some row) o3 none, .lst, ⟨rfl, _, rfl⟩, ?_, ?_⟩
  · rintro j el r' m' hj ⟨rfl, o, rfl⟩
    rcases j with _ | _ | _ | _ | j
    · obtain rfl := (Option.some.inj hj).symm
      walk_at "go_4"
      exact ⟨_, rfl⟩
    · obtain rfl := (Option.some.inj hj).symm
      walk_at "go_4"
      exact ⟨_, rfl⟩
    · obtain rfl := (Option.some.inj hj).symm
      walk_at "go_4"
      exact ⟨_, rfl⟩
    · obtain rfl := (Option.some.inj hj).symm
      walk_at "go_4"
      exact ⟨_, rfl⟩
    · exact nomatch hj
  · rintro r' m' ⟨rfl, o, rfl⟩
    walk_at "go_4"
    refine ws_seqI ?_
    walk_at "go_4"
    all_goals try assumption
    refine ⟨_, fun _ r' m'' => m'' = m' ∧ ∃ o4, r' = R0 (some row) (some row) o o4, .lst, ⟨rfl, _, rfl⟩, ?_, ?_⟩
    · rintro j el r' m' hj ⟨rfl, o4, rfl⟩
      rcases j with _ | _ | j
      · obtain rfl := (Option.some.inj hj).symm
        walk_at "go_4"
        all_goals first | assumption | exact ⟨_, rfl⟩
      · obtain rfl := (Option.some.inj hj).symm
        walk_at "go_4"
        all_goals first | assumption | exact ⟨_, rfl⟩
      · exact nomatch hj
    · rintro r' m' ⟨rfl, o4, rfl⟩
      walk_at "go_4"
      all_goals first | assumption | exact k
end
end K06
set_option Elab.async false
set_option linter.all false
set_option maxRecDepth 100000
set_option maxHeartbeats 4000000
namespace K06
open PySem PySem.Spec L2 DL
open PyProof.Rows hiding St
/-! one step, by the goal's head -/

/-! Ratio and Span by numbers: their promises used -/


section
variable {G : Gx} {C_Ratio C_Span C_Apart C_Crossed C_CarryError : Addr}
local macro_rules | `(tactic| walk_at "useWe_1") => `(tactic| first | (with_reducible refine we_ratQ ?_) | (with_reducible refine we_spn ?_) | (with_reducible refine we_sta ?_) | (with_reducible refine we_lst ?_) | fail)
local macro_rules | `(tactic| walk_at "sWe_1") => `(tactic| first
  | ((with_reducible refine we_var (d := ?d) ?hv ?hk); case hv => rfl)
  | (with_reducible first
    | refine we_cint ?_ | refine we_2 ?_ | refine we_fldF ?_ | refine we_cl0 ?_ | refine we_tup ?_ | refine we_1 ?_ | refine we_c2 ?_ | refine we_cbl ?_ | refine we_cnon ?_ | refine we_cty ?_ | refine we_cref ?_
    | refine we_op ?_ | refine we_andV ?_ | refine we_orV ?_ | refine we_notV ?_ | refine we_3 ?_ | refine we_ifx ?_ | refine we_cstr ?_ | refine we_clH ?_)
  | walk_at "useWe_1")
local macro_rules | `(tactic| walk_at "useW2_1") => `(tactic| fail)
local macro_rules | `(tactic| walk_at "sW2_1") => `(tactic| first
  | (with_reducible first
    | refine w2_add ?_ | refine w2_sub ?_ | refine w2_mul ⟨?_, ?_⟩ | refine w2_fdiv ⟨?_, ?_⟩ | refine w2_mod ⟨?_, ?_⟩ | refine w2_pow ⟨?_, ?_⟩ | refine w2_eqI ?_ | refine w2_neI ?_ | refine w2_lt ?_ | refine w2_le ?_ | refine w2_gt ?_ | refine w2_ge ?_ | refine w2_eqFI ?_ | refine w2_neFI ?_)
  | ((with_reducible refine w2_ixT (d := ?d) ⟨?hv, ?hk⟩); case hv => rfl)
  | ((with_reducible refine w2_ixL (d := ?d) ⟨?hv, ?hk⟩); case hv => rfl)
  | ((with_reducible refine w2_ixM (d := ?d) .head ⟨?hv, ?hk⟩); case hv => rfl)
  | (with_reducible first
    | refine w2_eqIH ?_ | refine w2_neIH ?_ | refine w2_mulH ⟨?_, ?_⟩ | refine w2_addH ?_ | refine w2_subH ?_ | refine w2_isN ?_ | refine w2_notN ?_ | refine w2_isB ?_ | refine w2_notB ?_)
  | walk_at "useW2_1")
local macro_rules | `(tactic| walk_at "sWa_1") => `(tactic| with_reducible first | refine wa_nil ?_ | refine wa_cons ?_)
local macro_rules | `(tactic| walk_at "useWs_1") => `(tactic| first | (with_reducible refine ws_rs0 ?_) | (with_reducible refine ws_rs ?_) | fail)
local macro_rules | `(tactic| walk_at "sWs_1") => `(tactic| first
  | (with_reducible first | refine ws_seq ?_ | refine ws_ret ?_ | refine ws_asg ?_ | refine ws_next ?_ | refine ws_drop ?_ | refine ws_par ?_ | refine ws_par3 ?_ | refine ws_fldN ?_ | refine ws_brk ?_ | refine ws_cont ?_)
  | walk_at "useWs_1")
local macro_rules | `(tactic| walk_at "sWt_1") => `(tactic| with_reducible first | refine wt_test ?_ | refine wt_tr ?_ | refine wt_and ?_ | refine wt_or ?_ | refine wt_not ?_)
local macro_rules | `(tactic| walk_at "useWc_1") => `(tactic| fail)
local macro_rules | `(tactic| walk_at "sWc_1") => `(tactic| first
  | (with_reducible first | refine wc_int ?_ | refine wc_abs ?_ | refine wc_min ?_ | refine wc_gcd ?_ | refine wc_isiT .int kit_ii ?_ | refine wc_isiT .int kit_ib ?_ | refine wc_len .lst ?_ | refine wc_len .tup ?_ | refine wc_strI ?_ ?_)
  | walk_at "useWc_1")
local macro_rules | `(tactic| walk_at "sWg_1") => `(tactic| with_reducible first | refine wg_name ?_ | refine wg_subM ?_ | refine wg_tup rfl ?_)
local macro_rules | `(tactic| walk_at "sW1_1") => `(tactic| first | (with_reducible refine w1_neg ?_) | walk_at "useW2_1")
local macro_rules | `(tactic| walk_at "sWgs_1") => `(tactic| with_reducible first | refine wgs_cons ?_ | refine wgs_nil ?_)
local macro_rules | `(tactic| walk_at "use_1") => `(tactic| first
  | (with_reducible refine RatQ.mk ?_ ?_ ?_) | (with_reducible refine SpnA.mk ?_ ?_ ?_ ?_)
  | (with_reducible refine use_digit ?_ ?_ (by assumption) fun dg m' d0 d1 hpm => ?_) | (with_reducible refine use_ends (by assumption) fun a b c d m' tw hpm => ?_) | (with_reducible refine use_second ?_ ?_ ?_ (by assumption) fun a b c d m' tw hpm => ?_) | (with_reducible refine use_between ?_ (by assumption) (by assumption) fun t n m' fr l1 l2 hpm => ?_)
  | (with_reducible refine use_alone ?_ (by assumption) ?_ ?_) | (with_reducible refine use_order ?_ ?_) | (with_reducible refine use_contains ?_ (by assumption) ?_ ?_) | (with_reducible refine use_is_span ?_ ?_ ?_ ?_ ?_) | (with_reducible refine use_spoint ?_ ?_) | fail)
local macro_rules | `(tactic| walk_at "sX_1") => `(tactic| first
  | (with_reducible refine ⟨_, rfl, ?_⟩)
  | (with_reducible refine fld_top (by assumption) ?_) | (with_reducible refine fld_bottom (by assumption) ?_)
  | (with_reducible refine ⟨_, .bl, ?_⟩)
  | ((with_reducible refine ⟨?h, ?_⟩); case h => rfl)
  | (with_reducible refine ⟨_, _, rfl, ?_⟩)
  | (with_reducible refine ⟨_, _, _, rfl, ?_⟩)
  | walk_at "use_1"
  | (with_reducible refine setN_top (by assumption) ?_) | (with_reducible refine setN_bottom (by assumption) ?_)
  | ((with_reducible refine ⟨_, _, _, ?j, _, rfl, rfl, .head, ?h, .head, ?_⟩); case h => rfl)
  | fail)
local macro_rules | `(tactic| walk_at "st_1") => `(tactic| first
  | ((with_reducible show We _ _ _ _ _ _); walk_at "sWe_1")
  | ((with_reducible show W2 _ _ _ _ _ _ _ _); walk_at "sW2_1")
  | ((with_reducible show Wa _ _ _ _ _ _); walk_at "sWa_1")
  | ((with_reducible show Ws _ _ _ _ _ _); walk_at "sWs_1")
  | ((with_reducible show Wt _ _ _ _ _ _); walk_at "sWt_1")
  | ((with_reducible show Wc _ _ _ _ _ _ _); walk_at "sWc_1")
  | ((with_reducible show Wg _ _ _ _ _ _ _); walk_at "sWg_1")
  | ((with_reducible show W1 _ _ _ _ _ _ _); walk_at "sW1_1")
  | ((with_reducible show Wgs _ _ _ _ _ _ _); walk_at "sWgs_1")
  | walk_at "sX_1" | fail)
local macro_rules | `(tactic| walk_at "wif_1") => `(tactic| (with_reducible refine ws_if ?_))
local macro_rules | `(tactic| walk_at "br_1") => `(tactic| ((with_reducible refine ⟨fun hb => ?_, fun hb => ?_⟩) <;> (try simp only [decide_eq_true_eq, decide_eq_false_iff_not, Bool.not_eq_true', Bool.not_eq_false', Bool.and_eq_true, Bool.or_eq_true, reduceCtorEq, List.length_map, Bool.not_true, Bool.not_false, DL.isNon, not_true_eq_false, not_false_eq_true, Classical.not_not, List.all_cons, List.all_nil, id_eq, Bool.and_self, Bool.true_and, decide_true, decide_false] at hb)))
local macro_rules | `(tactic| walk_at "go_1") => `(tactic| repeat' (first | walk_at "st_1" | walk_at "wif_1" | walk_at "br_1" | fail))
theorem fr_step {g : Int} (h0 : 0 ≤ g) (h1 : g < 10 ^ Int.toNat 12) : Fr 41 1 (1 + g) := by
  rw [e12] at h1
  exact ⟨by omega, bd_lit (by decide), by unfold Bd; omega⟩
theorem four_of {a b c d e f g h : Int} (s : Two2 82 a b c d) (t : Two2 292 e f g h) : Four a b c d e f g h := ⟨⟨s.l.mono (by decide), s.h.mono (by decide), s.le⟩, t⟩
theorem ok_law (T : Txt G C_Ratio C_Span C_Apart C_Crossed C_CarryError) (k_Ratio : Mak G 1 "Ratio" C_Ratio 3 (S_init C_Ratio) []) (k_Span : Mak G 3 "Span" C_Span 3 (S_sinit C_Span C_Ratio) []) (s_Span_point : Sta G 5 C_Span "point" 1 (S_spoint C_Span C_Ratio)) (c__law_start : Cal G 1 "_law_start" 1 (S_pot G.K) []) (c__law_digit : Cal G 1 "_law_digit" 2 S_digit []) (c__law_ends : Cal G 3 "_law_ends" 1 S_ends []) (c__law_second : Cal G 4 "_law_second" 3 S_second []) (c__law_between : Cal G 2 "_law_between" 2 S_between []) (c__law_alone : Cal G 9 "_law_alone" 3 (S_alone C_Span C_Ratio) []) (c__law_two : Cal G 8 "_law_two" 4 (S_order C_Span C_Ratio) []) (c__law_contains : Cal G 3 "_law_contains" 3 (S_contains C_Span C_Ratio) []) (c__law_is_span : Cal G 3 "_law_is_span" 3 (S_is_span C_Span C_Ratio) []) {f : Addr} {fd : FuncData} (F : L2.Fun G.K "law" "law" s_law f fd) : FnOk G.P G.w G.K G.mg G.base (L2N.CX G.P G.w) 10 f fd ["script"] (spD 1 (S_law G.K)) := by
  refine fnok_of F sc_law rfl (fun cdv A outer s H FF hr tk => ⟨_, (pss_cons (ps_set (i := 1) sc_law.nd rfl (Or.inl rfl) (pe_cl c__law_start hr (by decide) tk rfl (pa_cons (pe_var (i := 0) rfl (Or.inl rfl) nd_script.1 nd_script.2) pa_nil))) (pss_cons (ps_set (i := 2) sc_law.nd rfl (Or.inl rfl) (pe_cl c__law_ends hr (by decide) tk rfl (pa_cons (pe_var (i := 1) rfl (Or.inl rfl) nd_pot.1 nd_pot.2) pa_nil))) (pss_cons (ps_set (i := 3) sc_law.nd rfl (Or.inl rfl) (pe_tup (pa_cons pe_int (pa_cons (pe_bin (os_add hr tk) pe_int (pe_cl c__law_digit hr (by decide) tk rfl (pa_cons (pe_var (i := 1) rfl (Or.inl rfl) nd_pot.1 nd_pot.2) (pa_cons (pe_bin os_pow pe_int pe_int) pa_nil)))) pa_nil)))) (pss_cons (ps_set (i := 4) sc_law.nd rfl (Or.inl rfl) (pe_cl c__law_second hr (by decide) tk rfl (pa_cons (pe_var (i := 1) rfl (Or.inl rfl) nd_pot.1 nd_pot.2) (pa_cons (pe_var (i := 2) rfl (Or.inl rfl) nd_s.1 nd_s.2) (pa_cons (pe_var (i := 3) rfl (Or.inl rfl) nd_step.1 nd_step.2) pa_nil))))) (pss_cons (ps_set (i := 5) sc_law.nd rfl (Or.inl rfl) (pe_cl c__law_between hr (by decide) tk rfl (pa_cons (pe_var (i := 1) rfl (Or.inl rfl) nd_pot.1 nd_pot.2) (pa_cons (pe_var (i := 2) rfl (Or.inl rfl) nd_s.1 nd_s.2) pa_nil)))) (pss_cons (ps_set (i := 6) sc_law.nd rfl (Or.inl rfl) (pe_cl c__law_between hr (by decide) tk rfl (pa_cons (pe_var (i := 1) rfl (Or.inl rfl) nd_pot.1 nd_pot.2) (pa_cons (pe_var (i := 4) rfl (Or.inl rfl) nd_t.1 nd_t.2) pa_nil)))) (pss_cons (ps_set (i := 7) sc_law.nd rfl (Or.inl rfl) (pe_mak k_Span hr (by decide) tk rfl (pa_cons (pe_mak k_Ratio hr (by decide) tk rfl (pa_cons (pe_ix ix_seq (pe_ix ix_seq (pe_var (i := 2) rfl (Or.inl rfl) nd_s.1 nd_s.2) pe_int (fun _ _ => rfl)) pe_int (fun _ _ => rfl)) (pa_cons (pe_ix ix_seq (pe_ix ix_seq (pe_var (i := 2) rfl (Or.inl rfl) nd_s.1 nd_s.2) pe_int (fun _ _ => rfl)) pe_int (fun _ _ => rfl)) pa_nil))) (pa_cons (pe_mak k_Ratio hr (by decide) tk rfl (pa_cons (pe_ix ix_seq (pe_ix ix_seq (pe_var (i := 2) rfl (Or.inl rfl) nd_s.1 nd_s.2) pe_int (fun _ _ => rfl)) pe_int (fun _ _ => rfl)) (pa_cons (pe_ix ix_seq (pe_ix ix_seq (pe_var (i := 2) rfl (Or.inl rfl) nd_s.1 nd_s.2) pe_int (fun _ _ => rfl)) pe_int (fun _ _ => rfl)) pa_nil))) pa_nil)))) (pss_cons (ps_set (i := 8) sc_law.nd rfl (Or.inl rfl) (pe_mak k_Span hr (by decide) tk rfl (pa_cons (pe_mak k_Ratio hr (by decide) tk rfl (pa_cons (pe_ix ix_seq (pe_ix ix_seq (pe_var (i := 4) rfl (Or.inl rfl) nd_t.1 nd_t.2) pe_int (fun _ _ => rfl)) pe_int (fun _ _ => rfl)) (pa_cons (pe_ix ix_seq (pe_ix ix_seq (pe_var (i := 4) rfl (Or.inl rfl) nd_t.1 nd_t.2) pe_int (fun _ _ => rfl)) pe_int (fun _ _ => rfl)) pa_nil))) (pa_cons (pe_mak k_Ratio hr (by decide) tk rfl (pa_cons (pe_ix ix_seq (pe_ix ix_seq (pe_var (i := 4) rfl (Or.inl rfl) nd_t.1 nd_t.2) pe_int (fun _ _ => rfl)) pe_int (fun _ _ => rfl)) (pa_cons (pe_ix ix_seq (pe_ix ix_seq (pe_var (i := 4) rfl (Or.inl rfl) nd_t.1 nd_t.2) pe_int (fun _ _ => rfl)) pe_int (fun _ _ => rfl)) pa_nil))) pa_nil)))) (pss_cons (ps_if (PW.pt (pw_or (pt_not (pt_tr (pe_cl c__law_alone hr (by decide) tk rfl (pa_cons (pe_var (i := 7) rfl (Or.inl rfl) nd_a.1 nd_a.2) (pa_cons (pe_var (i := 2) rfl (Or.inl rfl) nd_s.1 nd_s.2) (pa_cons (pe_var (i := 3) rfl (Or.inl rfl) nd_step.1 nd_step.2) pa_nil)))))) (pw_or1 (pt_not (pt_tr (pe_cl c__law_alone hr (by decide) tk rfl (pa_cons (pe_var (i := 8) rfl (Or.inl rfl) nd_b.1 nd_b.2) (pa_cons (pe_var (i := 4) rfl (Or.inl rfl) nd_t.1 nd_t.2) (pa_cons (pe_var (i := 3) rfl (Or.inl rfl) nd_step.1 nd_step.2) pa_nil))))))))) (pss_one (ps_ret pe_bl)) pss_nil) (pss_cons (ps_if (pt_not (pt_tr (pe_cl c__law_two hr (by decide) tk rfl (pa_cons (pe_var (i := 7) rfl (Or.inl rfl) nd_a.1 nd_a.2) (pa_cons (pe_var (i := 8) rfl (Or.inl rfl) nd_b.1 nd_b.2) (pa_cons (pe_var (i := 2) rfl (Or.inl rfl) nd_s.1 nd_s.2) (pa_cons (pe_var (i := 4) rfl (Or.inl rfl) nd_t.1 nd_t.2) pa_nil))))))) (pss_one (ps_ret pe_bl)) pss_nil) (pss_cons (ps_for (passes_of rfl) rfl (pi_seq (pe_lst (pa_cons (pe_ix ix_seq (pe_var (i := 2) rfl (Or.inl rfl) nd_s.1 nd_s.2) pe_int (fun _ _ => rfl)) (pa_cons (pe_ix ix_seq (pe_var (i := 2) rfl (Or.inl rfl) nd_s.1 nd_s.2) pe_int (fun _ _ => rfl)) (pa_cons (pe_ix ix_seq (pe_var (i := 4) rfl (Or.inl rfl) nd_t.1 nd_t.2) pe_int (fun _ _ => rfl)) (pa_cons (pe_ix ix_seq (pe_var (i := 4) rfl (Or.inl rfl) nd_t.1 nd_t.2) pe_int (fun _ _ => rfl)) (pa_cons (pe_var (i := 5) rfl (Or.inl rfl) nd_x.1 nd_x.2) (pa_cons (pe_var (i := 6) rfl (Or.inl rfl) nd_y.1 nd_y.2) pa_nil)))))))) (pg_name (i := 9) sc_law.nd rfl (Or.inl rfl)) (pss_cons (ps_if (PW.pt (pw_or (pt_not (pt_tr (pe_cl c__law_contains hr (by decide) tk rfl (pa_cons (pe_var (i := 7) rfl (Or.inl rfl) nd_a.1 nd_a.2) (pa_cons (pe_var (i := 2) rfl (Or.inl rfl) nd_s.1 nd_s.2) (pa_cons (pe_var (i := 9) rfl (Or.inl rfl) nd_p.1 nd_p.2) pa_nil)))))) (pw_or1 (pt_not (pt_tr (pe_cl c__law_contains hr (by decide) tk rfl (pa_cons (pe_var (i := 8) rfl (Or.inl rfl) nd_b.1 nd_b.2) (pa_cons (pe_var (i := 4) rfl (Or.inl rfl) nd_t.1 nd_t.2) (pa_cons (pe_var (i := 9) rfl (Or.inl rfl) nd_p.1 nd_p.2) pa_nil))))))))) (pss_one (ps_ret pe_bl)) pss_nil) (pss_one (ps_if (pt_not (pt_tr (pe_cl c__law_is_span hr (by decide) tk rfl (pa_cons (pe_sta s_Span_point hr (by decide) tk (pe_glob (v := .ref C_Span) rfl T.mg_Span rfl) (pa_cons (pe_mak k_Ratio hr (by decide) tk rfl (pa_cons (pe_ix ix_seq (pe_var (i := 9) rfl (Or.inl rfl) nd_p.1 nd_p.2) pe_int (fun _ _ => rfl)) (pa_cons (pe_ix ix_seq (pe_var (i := 9) rfl (Or.inl rfl) nd_p.1 nd_p.2) pe_int (fun _ _ => rfl)) pa_nil))) pa_nil)) (pa_cons (pe_var (i := 9) rfl (Or.inl rfl) nd_p.1 nd_p.2) (pa_cons (pe_var (i := 9) rfl (Or.inl rfl) nd_p.1 nd_p.2) pa_nil)))))) (pss_one (ps_ret pe_bl)) pss_nil)))) (pss_cons (ps_if (PW.pt (pw_or (pt_not (pt_tr (pe_cl c__law_is_span hr (by decide) tk rfl (pa_cons (pe_var (i := 7) rfl (Or.inl rfl) nd_a.1 nd_a.2) (pa_cons (pe_ix ix_seq (pe_var (i := 2) rfl (Or.inl rfl) nd_s.1 nd_s.2) pe_int (fun _ _ => rfl)) (pa_cons (pe_ix ix_seq (pe_var (i := 2) rfl (Or.inl rfl) nd_s.1 nd_s.2) pe_int (fun _ _ => rfl)) pa_nil)))))) (pw_or1 (pt_not (pt_tr (pe_cl c__law_is_span hr (by decide) tk rfl (pa_cons (pe_var (i := 8) rfl (Or.inl rfl) nd_b.1 nd_b.2) (pa_cons (pe_ix ix_seq (pe_var (i := 4) rfl (Or.inl rfl) nd_t.1 nd_t.2) pe_int (fun _ _ => rfl)) (pa_cons (pe_ix ix_seq (pe_var (i := 4) rfl (Or.inl rfl) nd_t.1 nd_t.2) pe_int (fun _ _ => rfl)) pa_nil))))))))) (pss_one (ps_ret pe_bl)) pss_nil) (pss_one (ps_ret (pe_cl c__law_two hr (by decide) tk rfl (pa_cons (pe_var (i := 7) rfl (Or.inl rfl) nd_a.1 nd_a.2) (pa_cons (pe_var (i := 8) rfl (Or.inl rfl) nd_b.1 nd_b.2) (pa_cons (pe_var (i := 2) rfl (Or.inl rfl) nd_s.1 nd_s.2) (pa_cons (pe_var (i := 4) rfl (Or.inl rfl) nd_t.1 nd_t.2) pa_nil))))))))))))))))))), ?_⟩)
  rintro ds m K E - ⟨d, ns, rfl, sd, hl, hb, rfl, k⟩
  show Ws _ _ _ [some d, none, none, none, none, none, none, none, none, none] _ _
  try dsimp only [cx_G, cx_K]
  walk_at "go_1"
  refine ⟨d, ns, rfl, sd, hl, fun p m1 hp hm => ?_⟩
  have hpm : PotM p [] m1 := hm
  walk_at "go_1"
  all_goals try first
    | exact cp12
    | exact (show (0 : Int) < _ by decide +kernel)
    | exact bd_lit (by decide +kernel)
    | assumption
    | (show (_ : Nat) ≤ _; decide)
    | (show (0 : Int) ≤ _; decide)
    | exact fr_step ‹_› ‹_›
    | exact Two2.le ‹_›
    | exact Int.ne_of_gt (Two2.l ‹_›).pos
    | exact Int.ne_of_gt (Two2.h ‹_›).pos
    | exact (Two2.l ‹_›).bb.mono (by decide)
    | exact (Two2.h ‹_›).bb.mono (by decide)
    | exact (Two2.l ‹_›).qb.mono (by decide)
    | exact (Two2.h ‹_›).qb.mono (by decide)
    | exact four_of ‹_› ‹_›
  rename_i a b c d' m2 tw h2 dg m3 d0 d1 h3 e f g h m4 tu h4 t1 n1 m5 fx x1 x2 h5 t2 n2 m6 fy y1 y2 h6 _ _ _
  let R0 : Option D → Rho := fun o => [some d, some (.ref p), some (b4 a b c d'), some (pr 1 (1 + dg)), some (b4 e f g h), some (pr t1 n1), some (pr t2 n2), some (spn C_Span C_Ratio (dv a b) (dv c d')), some (spn C_Span C_Ratio (dv e f) (dv g h)), o]
  have four := four_of tw tu
  obtain ⟨g0, g1⟩ := tw.f (show 82 ≤ 1000 by decide)
  obtain ⟨g2, g3⟩ := tu.f (show 292 ≤ 1000 by decide)
  have g4 : Fr 1000 t1 n1 := fx.mono (by decide)
  have g5 : Fr 1000 t2 n2 := fy.mono (by decide)
  refine ws_seqI ?_
  walk_at "go_1"
  refine ⟨_, fun _ r' m' => m' = m6 ∧ ∃ o, r' = R0 o, .lst, ⟨rfl, _, rfl⟩, ?_, ?_⟩
  · rintro j el r' m' hj ⟨rfl, o, rfl⟩
    have ⟨u, v, eu, fu⟩ : ∃ u v, el = pr u v ∧ Fr 1000 u v := by
      rcases j with _ | _ | _ | _ | _ | _ | j
      · exact ⟨_, _, (Option.some.inj hj).symm, g0⟩
      · exact ⟨_, _, (Option.some.inj hj).symm, g1⟩
      · exact ⟨_, _, (Option.some.inj hj).symm, g2⟩
      · exact ⟨_, _, (Option.some.inj hj).symm, g3⟩
      · exact ⟨_, _, (Option.some.inj hj).symm, g4⟩
      · exact ⟨_, _, (Option.some.inj hj).symm, g5⟩
      · exact nomatch hj
    subst eu
    have qu : Qb 3900 (dv u v) := fu.qb.mono (by decide)
    have nz : v ≠ 0 := Int.ne_of_gt fu.pos
    have bz : Bd 8000 v := fu.bb.mono (by decide)
    walk_at "go_1"
    all_goals first | assumption | decide | rfl | exact ⟨_, rfl⟩
  · rintro r' m' ⟨rfl, o, rfl⟩
    walk_at "go_1"
    all_goals first | assumption | rfl | exact k _
end
end K06
set_option Elab.async false
set_option linter.all false
set_option maxRecDepth 100000
set_option maxHeartbeats 4000000
namespace K06
open PySem PySem.Spec L2 DL
open PyProof.Rows hiding St
theorem all_mk {l : PySem.W.OpenLaw} {w : World} {K : PySem.W.Frag} {h : Heap} {mg : Str → Option Value} {fa : Addr} (X : K.In h) (Gn : h.Ns mainGlobals mg) (hfa : mg "law" = some (.ref fa))
    {C_Ratio : Addr} {C_Span : Addr} {C_Apart : Addr} {C_Crossed N_e_Crossed : Addr} {nm_Crossed q_Crossed : Str} {bs_Crossed bm_Crossed sn_Crossed : _} {sub_Crossed ab_Crossed col_Crossed dd_Crossed m0_Crossed m1_Crossed m2_Crossed m3_Crossed m5_Crossed : _} {C_CarryError : Addr} {f_Ratio___init__ : Addr} {od_Ratio___init__ an_Ratio___init__ : Option Addr} {sl_Ratio___init__ : Array (Option Value)} {oc_Ratio___init__ kV_Ratio___init__ dc_Ratio___init__ pm_Ratio___init__ cd_Ratio___init__ ct_Ratio___init__ : Value} {T_Ratio___init__ : Addr} {tk_Ratio___init__ : Tok} {oT_Ratio___init__ : Option Addr} {nT_Ratio___init__ : Nat} {sT_Ratio___init__ : Array (Option Value)} {cT_Ratio___init__ : Value} {f_Ratio_compare : Addr} {od_Ratio_compare an_Ratio_compare : Option Addr} {sl_Ratio_compare : Array (Option Value)} {oc_Ratio_compare kV_Ratio_compare dc_Ratio_compare pm_Ratio_compare cd_Ratio_compare ct_Ratio_compare : Value} {f_Ratio_text : Addr} {od_Ratio_text an_Ratio_text : Option Addr} {sl_Ratio_text : Array (Option Value)} {oc_Ratio_text kV_Ratio_text dc_Ratio_text pm_Ratio_text cd_Ratio_text ct_Ratio_text : Value} {f_Ratio___eq__ : Addr} {od_Ratio___eq__ an_Ratio___eq__ : Option Addr} {sl_Ratio___eq__ : Array (Option Value)} {oc_Ratio___eq__ kV_Ratio___eq__ dc_Ratio___eq__ pm_Ratio___eq__ cd_Ratio___eq__ ct_Ratio___eq__ : Value} {f_Ratio___sub__ : Addr} {od_Ratio___sub__ an_Ratio___sub__ : Option Addr} {sl_Ratio___sub__ : Array (Option Value)} {oc_Ratio___sub__ kV_Ratio___sub__ dc_Ratio___sub__ pm_Ratio___sub__ cd_Ratio___sub__ ct_Ratio___sub__ : Value} {f_lesser : Addr} {od_lesser an_lesser : Option Addr} {sl_lesser : Array (Option Value)} {oc_lesser kV_lesser dc_lesser pm_lesser cd_lesser ct_lesser : Value} {f_greater : Addr} {od_greater an_greater : Option Addr} {sl_greater : Array (Option Value)} {oc_greater kV_greater dc_greater pm_greater cd_greater ct_greater : Value} {f_Span___init__ : Addr} {od_Span___init__ an_Span___init__ : Option Addr} {sl_Span___init__ : Array (Option Value)} {oc_Span___init__ kV_Span___init__ dc_Span___init__ pm_Span___init__ cd_Span___init__ ct_Span___init__ : Value} {f_Span___eq__ : Addr} {od_Span___eq__ an_Span___eq__ : Option Addr} {sl_Span___eq__ : Array (Option Value)} {oc_Span___eq__ kV_Span___eq__ dc_Span___eq__ pm_Span___eq__ cd_Span___eq__ ct_Span___eq__ : Value} {f_Span___contains__ : Addr} {od_Span___contains__ an_Span___contains__ : Option Addr} {sl_Span___contains__ : Array (Option Value)} {oc_Span___contains__ kV_Span___contains__ dc_Span___contains__ pm_Span___contains__ cd_Span___contains__ ct_Span___contains__ : Value} {f_Span___and__ : Addr} {od_Span___and__ an_Span___and__ : Option Addr} {sl_Span___and__ : Array (Option Value)} {oc_Span___and__ kV_Span___and__ dc_Span___and__ pm_Span___and__ cd_Span___and__ ct_Span___and__ : Value} {f_Span_at_most : Addr} {od_Span_at_most an_Span_at_most : Option Addr} {sl_Span_at_most : Array (Option Value)} {oc_Span_at_most kV_Span_at_most dc_Span_at_most pm_Span_at_most cd_Span_at_most ct_Span_at_most : Value} {f_Span_length : Addr} {od_Span_length an_Span_length : Option Addr} {sl_Span_length : Array (Option Value)} {oc_Span_length kV_Span_length dc_Span_length pm_Span_length cd_Span_length ct_Span_length : Value} {f_Span_text : Addr} {od_Span_text an_Span_text : Option Addr} {sl_Span_text : Array (Option Value)} {oc_Span_text kV_Span_text dc_Span_text pm_Span_text cd_Span_text ct_Span_text : Value} {f_Span_point : Addr} {od_Span_point an_Span_point : Option Addr} {sl_Span_point : Array (Option Value)} {oc_Span_point kV_Span_point dc_Span_point pm_Span_point cd_Span_point ct_Span_point : Value} {p_Span_point : Addr} {rr_Span_point : List Value} {f__law_start : Addr} {od__law_start an__law_start : Option Addr} {sl__law_start : Array (Option Value)} {oc__law_start kV__law_start dc__law_start pm__law_start cd__law_start ct__law_start : Value} {f__law_digit : Addr} {od__law_digit an__law_digit : Option Addr} {sl__law_digit : Array (Option Value)} {oc__law_digit kV__law_digit dc__law_digit pm__law_digit cd__law_digit ct__law_digit : Value} {f__law_fraction : Addr} {od__law_fraction an__law_fraction : Option Addr} {sl__law_fraction : Array (Option Value)} {oc__law_fraction kV__law_fraction dc__law_fraction pm__law_fraction cd__law_fraction ct__law_fraction : Value} {f__law_less : Addr} {od__law_less an__law_less : Option Addr} {sl__law_less : Array (Option Value)} {oc__law_less kV__law_less dc__law_less pm__law_less cd__law_less ct__law_less : Value} {f__law_plus : Addr} {od__law_plus an__law_plus : Option Addr} {sl__law_plus : Array (Option Value)} {oc__law_plus kV__law_plus dc__law_plus pm__law_plus cd__law_plus ct__law_plus : Value} {f__law_minus : Addr} {od__law_minus an__law_minus : Option Addr} {sl__law_minus : Array (Option Value)} {oc__law_minus kV__law_minus dc__law_minus pm__law_minus cd__law_minus ct__law_minus : Value} {f__law_ends : Addr} {od__law_ends an__law_ends : Option Addr} {sl__law_ends : Array (Option Value)} {oc__law_ends kV__law_ends dc__law_ends pm__law_ends cd__law_ends ct__law_ends : Value} {f__law_between : Addr} {od__law_between an__law_between : Option Addr} {sl__law_between : Array (Option Value)} {oc__law_between kV__law_between dc__law_between pm__law_between cd__law_between ct__law_between : Value} {f__law_second : Addr} {od__law_second an__law_second : Option Addr} {sl__law_second : Array (Option Value)} {oc__law_second kV__law_second dc__law_second pm__law_second cd__law_second ct__law_second : Value} {f__law_lowest : Addr} {od__law_lowest an__law_lowest : Option Addr} {sl__law_lowest : Array (Option Value)} {oc__law_lowest kV__law_lowest dc__law_lowest pm__law_lowest cd__law_lowest ct__law_lowest : Value} {f__law_written : Addr} {od__law_written an__law_written : Option Addr} {sl__law_written : Array (Option Value)} {oc__law_written kV__law_written dc__law_written pm__law_written cd__law_written ct__law_written : Value} {f__law_equals : Addr} {od__law_equals an__law_equals : Option Addr} {sl__law_equals : Array (Option Value)} {oc__law_equals kV__law_equals dc__law_equals pm__law_equals cd__law_equals ct__law_equals : Value} {f__law_is_span : Addr} {od__law_is_span an__law_is_span : Option Addr} {sl__law_is_span : Array (Option Value)} {oc__law_is_span kV__law_is_span dc__law_is_span pm__law_is_span cd__law_is_span ct__law_is_span : Value} {f__law_order : Addr} {od__law_order an__law_order : Option Addr} {sl__law_order : Array (Option Value)} {oc__law_order kV__law_order dc__law_order pm__law_order cd__law_order ct__law_order : Value} {f__law_apart : Addr} {od__law_apart an__law_apart : Option Addr} {sl__law_apart : Array (Option Value)} {oc__law_apart kV__law_apart dc__law_apart pm__law_apart cd__law_apart ct__law_apart : Value} {f__law_common : Addr} {od__law_common an__law_common : Option Addr} {sl__law_common : Array (Option Value)} {oc__law_common kV__law_common dc__law_common pm__law_common cd__law_common ct__law_common : Value} {f__law_same : Addr} {od__law_same an__law_same : Option Addr} {sl__law_same : Array (Option Value)} {oc__law_same kV__law_same dc__law_same pm__law_same cd__law_same ct__law_same : Value} {f__law_two : Addr} {od__law_two an__law_two : Option Addr} {sl__law_two : Array (Option Value)} {oc__law_two kV__law_two dc__law_two pm__law_two cd__law_two ct__law_two : Value} {f__law_contains : Addr} {od__law_contains an__law_contains : Option Addr} {sl__law_contains : Array (Option Value)} {oc__law_contains kV__law_contains dc__law_contains pm__law_contains cd__law_contains ct__law_contains : Value} {f__law_crossed : Addr} {od__law_crossed an__law_crossed : Option Addr} {sl__law_crossed : Array (Option Value)} {oc__law_crossed kV__law_crossed dc__law_crossed pm__law_crossed cd__law_crossed ct__law_crossed : Value} {f__law_alone : Addr} {od__law_alone an__law_alone : Option Addr} {sl__law_alone : Array (Option Value)} {oc__law_alone kV__law_alone dc__law_alone pm__law_alone cd__law_alone ct__law_alone : Value} {f_law : Addr} {od_law an_law : Option Addr} {sl_law : Array (Option Value)} {oc_law kV_law dc_law pm_law cd_law ct_law : Value} {f_Crossed___init__ : Addr} {od_Crossed___init__ an_Crossed___init__ : Option Addr} {sl_Crossed___init__ : Array (Option Value)} {oc_Crossed___init__ kV_Crossed___init__ dc_Crossed___init__ pm_Crossed___init__ cd_Crossed___init__ ct_Crossed___init__ : Value}
    (a_Ratio : PySem.W.nsIn K mainGlobals "Ratio" = some (some (.ref C_Ratio)))
    (pg_Ratio : PySem.W.plainGet K C_Ratio Str.empty = true)
    (hd_Ratio : PySem.W.hasDictIn K C_Ratio = true)
    (po_Ratio : PySem.W.plainOver K C_Ratio = true)
    (sa_Ratio : PySem.W.findIn K (.ref C_Ratio) "__setattr__" = some (some (.builtin "object.__setattr__")))
    (mk_Ratio : PySem.W.makesIn K C_Ratio = true)
    (sf_Ratio : PySem.W.selfFirst K C_Ratio = true)
    (kc_Ratio : PySem.W.keepIn K (.ref C_Ratio) = true)
    (ha_Ratio : PySem.W.findIn K (.ref C_Ratio) "__class__" = some (some (.builtin "object.__class__")))
    (mo_Ratio : PySem.W.mroIn K C_Ratio (.type "object") = some true)
    (is_Ratio : PySem.W.isClsIn K C_Ratio = true)
    (su_Ratio : PySem.W.subIn K (.ref C_Ratio) (.ref C_Ratio) = some true)
    (ty_Ratio : PySem.W.typeIn K (.ref C_Ratio) = some (.type "type"))
    (no_top_Ratio : PySem.W.findIn K (.ref C_Ratio) "top" = some none)
    (no_bottom_Ratio : PySem.W.findIn K (.ref C_Ratio) "bottom" = some none)
    (a_Span : PySem.W.nsIn K mainGlobals "Span" = some (some (.ref C_Span)))
    (pg_Span : PySem.W.plainGet K C_Span Str.empty = true)
    (hd_Span : PySem.W.hasDictIn K C_Span = true)
    (po_Span : PySem.W.plainOver K C_Span = true)
    (sa_Span : PySem.W.findIn K (.ref C_Span) "__setattr__" = some (some (.builtin "object.__setattr__")))
    (mk_Span : PySem.W.makesIn K C_Span = true)
    (sf_Span : PySem.W.selfFirst K C_Span = true)
    (kc_Span : PySem.W.keepIn K (.ref C_Span) = true)
    (ha_Span : PySem.W.findIn K (.ref C_Span) "__class__" = some (some (.builtin "object.__class__")))
    (mo_Span : PySem.W.mroIn K C_Span (.type "object") = some true)
    (is_Span : PySem.W.isClsIn K C_Span = true)
    (su_Span : PySem.W.subIn K (.ref C_Span) (.ref C_Span) = some true)
    (ty_Span : PySem.W.typeIn K (.ref C_Span) = some (.type "type"))
    (no_low_Span : PySem.W.findIn K (.ref C_Span) "low" = some none)
    (no_high_Span : PySem.W.findIn K (.ref C_Span) "high" = some none)
    (a_Apart : PySem.W.nsIn K mainGlobals "Apart" = some (some (.ref C_Apart)))
    (xi_Apart : PySem.W.excIn K C_Apart [.type "ValueError", .type "Exception", .type "BaseException", .type "object"] "ValueError.__new__" = true)
    (ex_Apart : PySem.W.subIn K (.ref C_Apart) (.type "BaseException") = some true)
    (ty_Apart : PySem.W.typeIn K (.ref C_Apart) = some (.type "type"))
    (kc_Apart : PySem.W.keepIn K (.ref C_Apart) = true)
    (ga_Apart : PySem.W.findIn K (.ref C_Apart) "__getattribute__" = some (some (.builtin "BaseException.__getattribute__")))
    (gg_Apart : PySem.W.findIn K (.ref C_Apart) "__getattr__" = some none)
    (hd_Apart : PySem.W.hasDictIn K C_Apart = true)
    (ha_Apart : PySem.W.findIn K (.ref C_Apart) "__class__" = some (some (.builtin "object.__class__")))
    (mo_Apart : PySem.W.mroIn K C_Apart (.type "object") = some true)
    (is_Apart : PySem.W.isClsIn K C_Apart = true)
    (su_Apart : PySem.W.subIn K (.ref C_Apart) (.ref C_Apart) = some true)
    (a_Crossed : PySem.W.nsIn K mainGlobals "Crossed" = some (some (.ref C_Crossed)))
    (l_Crossed : K.lookup C_Crossed = some (excClassObj nm_Crossed q_Crossed C_Crossed N_e_Crossed bs_Crossed bm_Crossed true sn_Crossed sub_Crossed ab_Crossed col_Crossed dd_Crossed m0_Crossed m1_Crossed m2_Crossed m3_Crossed m5_Crossed "ValueError.__new__"))
    (rf_Crossed : PySem.HandSPX.refsVE bm_Crossed = true)
    (sa_Crossed : PySem.W.findIn K (.ref C_Crossed) "__setattr__" = some (some (.builtin "object.__setattr__")))
    (ex_Crossed : PySem.W.subIn K (.ref C_Crossed) (.type "BaseException") = some true)
    (ty_Crossed : PySem.W.typeIn K (.ref C_Crossed) = some (.type "type"))
    (kc_Crossed : PySem.W.keepIn K (.ref C_Crossed) = true)
    (ga_Crossed : PySem.W.findIn K (.ref C_Crossed) "__getattribute__" = some (some (.builtin "BaseException.__getattribute__")))
    (gg_Crossed : PySem.W.findIn K (.ref C_Crossed) "__getattr__" = some none)
    (hd_Crossed : PySem.W.hasDictIn K C_Crossed = true)
    (ha_Crossed : PySem.W.findIn K (.ref C_Crossed) "__class__" = some (some (.builtin "object.__class__")))
    (mo_Crossed : PySem.W.mroIn K C_Crossed (.type "object") = some true)
    (is_Crossed : PySem.W.isClsIn K C_Crossed = true)
    (su_Crossed : PySem.W.subIn K (.ref C_Crossed) (.ref C_Crossed) = some true)
    (no_low_Crossed : PySem.W.findIn K (.ref C_Crossed) "low" = some none)
    (no_high_Crossed : PySem.W.findIn K (.ref C_Crossed) "high" = some none)
    (a_CarryError : PySem.W.nsIn K mainGlobals "CarryError" = some (some (.ref C_CarryError)))
    (ex_CarryError : PySem.W.subIn K (.ref C_CarryError) (.type "BaseException") = some true)
    (ty_CarryError : PySem.W.typeIn K (.ref C_CarryError) = some (.type "type"))
    (hd_CarryError : PySem.W.hasDictIn K C_CarryError = true)
    (is_CarryError : PySem.W.isClsIn K C_CarryError = true)
    (su_Ratio_Span : PySem.W.subIn K (.ref C_Ratio) (.ref C_Span) = some false)
    (su_Span_Ratio : PySem.W.subIn K (.ref C_Span) (.ref C_Ratio) = some false)
    (su_Apart_Crossed : PySem.W.subIn K (.ref C_Apart) (.ref C_Crossed) = some false)
    (su_Crossed_Apart : PySem.W.subIn K (.ref C_Crossed) (.ref C_Apart) = some false)
    (su_Apart_CarryError : PySem.W.subIn K (.ref C_Apart) (.ref C_CarryError) = some true)
    (su_Crossed_CarryError : PySem.W.subIn K (.ref C_Crossed) (.ref C_CarryError) = some true)
    (sT_Apart_ValueError : PySem.W.subIn K (.ref C_Apart) (.type "ValueError") = some true)
    (sT_Crossed_ValueError : PySem.W.subIn K (.ref C_Crossed) (.type "ValueError") = some true)
    (kt_NoneType_Ratio : PySem.W.subIn K (.type "NoneType") (.ref C_Ratio) = some false)
    (sb_NoneType_Ratio : PySem.W.subIn K (.ref C_Ratio) (.type "NoneType") = some false)
    (nf_NoneType_Ratio : PySem.W.notFirst K C_Ratio (.type "NoneType") = true)
    (kt_int_Ratio : PySem.W.subIn K (.type "int") (.ref C_Ratio) = some false)
    (sb_int_Ratio : PySem.W.subIn K (.ref C_Ratio) (.type "int") = some false)
    (nf_int_Ratio : PySem.W.notFirst K C_Ratio (.type "int") = true)
    (kt_str_Ratio : PySem.W.subIn K (.type "str") (.ref C_Ratio) = some false)
    (sb_str_Ratio : PySem.W.subIn K (.ref C_Ratio) (.type "str") = some false)
    (nf_str_Ratio : PySem.W.notFirst K C_Ratio (.type "str") = true)
    (kt_list_Ratio : PySem.W.subIn K (.type "list") (.ref C_Ratio) = some false)
    (sb_list_Ratio : PySem.W.subIn K (.ref C_Ratio) (.type "list") = some false)
    (nf_list_Ratio : PySem.W.notFirst K C_Ratio (.type "list") = true)
    (kt_tuple_Ratio : PySem.W.subIn K (.type "tuple") (.ref C_Ratio) = some false)
    (sb_tuple_Ratio : PySem.W.subIn K (.ref C_Ratio) (.type "tuple") = some false)
    (nf_tuple_Ratio : PySem.W.notFirst K C_Ratio (.type "tuple") = true)
    (kt_NoneType_Span : PySem.W.subIn K (.type "NoneType") (.ref C_Span) = some false)
    (sb_NoneType_Span : PySem.W.subIn K (.ref C_Span) (.type "NoneType") = some false)
    (nf_NoneType_Span : PySem.W.notFirst K C_Span (.type "NoneType") = true)
    (kt_int_Span : PySem.W.subIn K (.type "int") (.ref C_Span) = some false)
    (sb_int_Span : PySem.W.subIn K (.ref C_Span) (.type "int") = some false)
    (nf_int_Span : PySem.W.notFirst K C_Span (.type "int") = true)
    (kt_str_Span : PySem.W.subIn K (.type "str") (.ref C_Span) = some false)
    (sb_str_Span : PySem.W.subIn K (.ref C_Span) (.type "str") = some false)
    (nf_str_Span : PySem.W.notFirst K C_Span (.type "str") = true)
    (kt_list_Span : PySem.W.subIn K (.type "list") (.ref C_Span) = some false)
    (sb_list_Span : PySem.W.subIn K (.ref C_Span) (.type "list") = some false)
    (nf_list_Span : PySem.W.notFirst K C_Span (.type "list") = true)
    (kt_tuple_Span : PySem.W.subIn K (.type "tuple") (.ref C_Span) = some false)
    (sb_tuple_Span : PySem.W.subIn K (.ref C_Span) (.type "tuple") = some false)
    (nf_tuple_Span : PySem.W.notFirst K C_Span (.type "tuple") = true)
    (gs : PySem.W.specialIn K (.builtin "object.__class__") "__get__" = some (some (.builtin "getset_descriptor.__get__")))
    (gt : PySem.W.takesIn K (.builtin "object.__class__") = some true)
    (a_Ratio___init__ : PySem.W.findIn K (.ref C_Ratio) "__init__" = some (some (.ref f_Ratio___init__)))
    (i_Ratio___init__ : PySem.W.isFn K (.ref f_Ratio___init__) = true)
    (l_Ratio___init__ : K.lookup f_Ratio___init__ = some ⟨oc_Ratio___init__, od_Ratio___init__, .func (PySem.W.fnOf "__init__" "Ratio.__init__" (defArgs s_Ratio___init__) (defBody s_Ratio___init__) (defScope s_Ratio___init__) (.ref T_Ratio___init__) kV_Ratio___init__ dc_Ratio___init__ pm_Ratio___init__ an_Ratio___init__ cd_Ratio___init__ ct_Ratio___init__), sl_Ratio___init__⟩)
    (lT_Ratio___init__ : K.lookup T_Ratio___init__ = some ⟨cT_Ratio___init__, oT_Ratio___init__, .seq [Value.int 1 tk_Ratio___init__].toArray nT_Ratio___init__, sT_Ratio___init__⟩)
    (c_Ratio___init__ : PySem.W.codeIn K cd_Ratio___init__ "Ratio.__init__" = true)
    (k_Ratio___init__ : PySem.W.keepIn K (.ref f_Ratio___init__) = true)
    (a_Ratio_compare : PySem.W.findIn K (.ref C_Ratio) "compare" = some (some (.ref f_Ratio_compare)))
    (i_Ratio_compare : PySem.W.isFn K (.ref f_Ratio_compare) = true)
    (l_Ratio_compare : K.lookup f_Ratio_compare = some ⟨oc_Ratio_compare, od_Ratio_compare, .func (PySem.W.fnOf "compare" "Ratio.compare" (defArgs s_Ratio_compare) (defBody s_Ratio_compare) (defScope s_Ratio_compare) .none kV_Ratio_compare dc_Ratio_compare pm_Ratio_compare an_Ratio_compare cd_Ratio_compare ct_Ratio_compare), sl_Ratio_compare⟩)
    (c_Ratio_compare : PySem.W.codeIn K cd_Ratio_compare "Ratio.compare" = true)
    (k_Ratio_compare : PySem.W.keepIn K (.ref f_Ratio_compare) = true)
    (a_Ratio_text : PySem.W.findIn K (.ref C_Ratio) "text" = some (some (.ref f_Ratio_text)))
    (i_Ratio_text : PySem.W.isFn K (.ref f_Ratio_text) = true)
    (l_Ratio_text : K.lookup f_Ratio_text = some ⟨oc_Ratio_text, od_Ratio_text, .func (PySem.W.fnOf "text" "Ratio.text" (defArgs s_Ratio_text) (defBody s_Ratio_text) (defScope s_Ratio_text) .none kV_Ratio_text dc_Ratio_text pm_Ratio_text an_Ratio_text cd_Ratio_text ct_Ratio_text), sl_Ratio_text⟩)
    (c_Ratio_text : PySem.W.codeIn K cd_Ratio_text "Ratio.text" = true)
    (k_Ratio_text : PySem.W.keepIn K (.ref f_Ratio_text) = true)
    (a_Ratio___eq__ : PySem.W.findIn K (.ref C_Ratio) "__eq__" = some (some (.ref f_Ratio___eq__)))
    (i_Ratio___eq__ : PySem.W.isFn K (.ref f_Ratio___eq__) = true)
    (l_Ratio___eq__ : K.lookup f_Ratio___eq__ = some ⟨oc_Ratio___eq__, od_Ratio___eq__, .func (PySem.W.fnOf "__eq__" "Ratio.__eq__" (defArgs s_Ratio___eq__) (defBody s_Ratio___eq__) (defScope s_Ratio___eq__) .none kV_Ratio___eq__ dc_Ratio___eq__ pm_Ratio___eq__ an_Ratio___eq__ cd_Ratio___eq__ ct_Ratio___eq__), sl_Ratio___eq__⟩)
    (c_Ratio___eq__ : PySem.W.codeIn K cd_Ratio___eq__ "Ratio.__eq__" = true)
    (k_Ratio___eq__ : PySem.W.keepIn K (.ref f_Ratio___eq__) = true)
    (a_Ratio___sub__ : PySem.W.findIn K (.ref C_Ratio) "__sub__" = some (some (.ref f_Ratio___sub__)))
    (i_Ratio___sub__ : PySem.W.isFn K (.ref f_Ratio___sub__) = true)
    (l_Ratio___sub__ : K.lookup f_Ratio___sub__ = some ⟨oc_Ratio___sub__, od_Ratio___sub__, .func (PySem.W.fnOf "__sub__" "Ratio.__sub__" (defArgs s_Ratio___sub__) (defBody s_Ratio___sub__) (defScope s_Ratio___sub__) .none kV_Ratio___sub__ dc_Ratio___sub__ pm_Ratio___sub__ an_Ratio___sub__ cd_Ratio___sub__ ct_Ratio___sub__), sl_Ratio___sub__⟩)
    (c_Ratio___sub__ : PySem.W.codeIn K cd_Ratio___sub__ "Ratio.__sub__" = true)
    (k_Ratio___sub__ : PySem.W.keepIn K (.ref f_Ratio___sub__) = true)
    (a_lesser : PySem.W.nsIn K mainGlobals "lesser" = some (some (.ref f_lesser)))
    (l_lesser : K.lookup f_lesser = some ⟨oc_lesser, od_lesser, .func (PySem.W.fnOf "lesser" "lesser" (defArgs s_lesser) (defBody s_lesser) (defScope s_lesser) .none kV_lesser dc_lesser pm_lesser an_lesser cd_lesser ct_lesser), sl_lesser⟩)
    (c_lesser : PySem.W.codeIn K cd_lesser "lesser" = true)
    (k_lesser : PySem.W.keepIn K (.ref f_lesser) = true)
    (a_greater : PySem.W.nsIn K mainGlobals "greater" = some (some (.ref f_greater)))
    (l_greater : K.lookup f_greater = some ⟨oc_greater, od_greater, .func (PySem.W.fnOf "greater" "greater" (defArgs s_greater) (defBody s_greater) (defScope s_greater) .none kV_greater dc_greater pm_greater an_greater cd_greater ct_greater), sl_greater⟩)
    (c_greater : PySem.W.codeIn K cd_greater "greater" = true)
    (k_greater : PySem.W.keepIn K (.ref f_greater) = true)
    (a_Span___init__ : PySem.W.findIn K (.ref C_Span) "__init__" = some (some (.ref f_Span___init__)))
    (i_Span___init__ : PySem.W.isFn K (.ref f_Span___init__) = true)
    (l_Span___init__ : K.lookup f_Span___init__ = some ⟨oc_Span___init__, od_Span___init__, .func (PySem.W.fnOf "__init__" "Span.__init__" (defArgs s_Span___init__) (defBody s_Span___init__) (defScope s_Span___init__) .none kV_Span___init__ dc_Span___init__ pm_Span___init__ an_Span___init__ cd_Span___init__ ct_Span___init__), sl_Span___init__⟩)
    (c_Span___init__ : PySem.W.codeIn K cd_Span___init__ "Span.__init__" = true)
    (k_Span___init__ : PySem.W.keepIn K (.ref f_Span___init__) = true)
    (a_Span___eq__ : PySem.W.findIn K (.ref C_Span) "__eq__" = some (some (.ref f_Span___eq__)))
    (i_Span___eq__ : PySem.W.isFn K (.ref f_Span___eq__) = true)
    (l_Span___eq__ : K.lookup f_Span___eq__ = some ⟨oc_Span___eq__, od_Span___eq__, .func (PySem.W.fnOf "__eq__" "Span.__eq__" (defArgs s_Span___eq__) (defBody s_Span___eq__) (defScope s_Span___eq__) .none kV_Span___eq__ dc_Span___eq__ pm_Span___eq__ an_Span___eq__ cd_Span___eq__ ct_Span___eq__), sl_Span___eq__⟩)
    (c_Span___eq__ : PySem.W.codeIn K cd_Span___eq__ "Span.__eq__" = true)
    (k_Span___eq__ : PySem.W.keepIn K (.ref f_Span___eq__) = true)
    (a_Span___contains__ : PySem.W.findIn K (.ref C_Span) "__contains__" = some (some (.ref f_Span___contains__)))
    (i_Span___contains__ : PySem.W.isFn K (.ref f_Span___contains__) = true)
    (l_Span___contains__ : K.lookup f_Span___contains__ = some ⟨oc_Span___contains__, od_Span___contains__, .func (PySem.W.fnOf "__contains__" "Span.__contains__" (defArgs s_Span___contains__) (defBody s_Span___contains__) (defScope s_Span___contains__) .none kV_Span___contains__ dc_Span___contains__ pm_Span___contains__ an_Span___contains__ cd_Span___contains__ ct_Span___contains__), sl_Span___contains__⟩)
    (c_Span___contains__ : PySem.W.codeIn K cd_Span___contains__ "Span.__contains__" = true)
    (k_Span___contains__ : PySem.W.keepIn K (.ref f_Span___contains__) = true)
    (a_Span___and__ : PySem.W.findIn K (.ref C_Span) "__and__" = some (some (.ref f_Span___and__)))
    (i_Span___and__ : PySem.W.isFn K (.ref f_Span___and__) = true)
    (l_Span___and__ : K.lookup f_Span___and__ = some ⟨oc_Span___and__, od_Span___and__, .func (PySem.W.fnOf "__and__" "Span.__and__" (defArgs s_Span___and__) (defBody s_Span___and__) (defScope s_Span___and__) .none kV_Span___and__ dc_Span___and__ pm_Span___and__ an_Span___and__ cd_Span___and__ ct_Span___and__), sl_Span___and__⟩)
    (c_Span___and__ : PySem.W.codeIn K cd_Span___and__ "Span.__and__" = true)
    (k_Span___and__ : PySem.W.keepIn K (.ref f_Span___and__) = true)
    (a_Span_at_most : PySem.W.findIn K (.ref C_Span) "at_most" = some (some (.ref f_Span_at_most)))
    (i_Span_at_most : PySem.W.isFn K (.ref f_Span_at_most) = true)
    (l_Span_at_most : K.lookup f_Span_at_most = some ⟨oc_Span_at_most, od_Span_at_most, .func (PySem.W.fnOf "at_most" "Span.at_most" (defArgs s_Span_at_most) (defBody s_Span_at_most) (defScope s_Span_at_most) .none kV_Span_at_most dc_Span_at_most pm_Span_at_most an_Span_at_most cd_Span_at_most ct_Span_at_most), sl_Span_at_most⟩)
    (c_Span_at_most : PySem.W.codeIn K cd_Span_at_most "Span.at_most" = true)
    (k_Span_at_most : PySem.W.keepIn K (.ref f_Span_at_most) = true)
    (a_Span_length : PySem.W.findIn K (.ref C_Span) "length" = some (some (.ref f_Span_length)))
    (i_Span_length : PySem.W.isFn K (.ref f_Span_length) = true)
    (l_Span_length : K.lookup f_Span_length = some ⟨oc_Span_length, od_Span_length, .func (PySem.W.fnOf "length" "Span.length" (defArgs s_Span_length) (defBody s_Span_length) (defScope s_Span_length) .none kV_Span_length dc_Span_length pm_Span_length an_Span_length cd_Span_length ct_Span_length), sl_Span_length⟩)
    (c_Span_length : PySem.W.codeIn K cd_Span_length "Span.length" = true)
    (k_Span_length : PySem.W.keepIn K (.ref f_Span_length) = true)
    (a_Span_text : PySem.W.findIn K (.ref C_Span) "text" = some (some (.ref f_Span_text)))
    (i_Span_text : PySem.W.isFn K (.ref f_Span_text) = true)
    (l_Span_text : K.lookup f_Span_text = some ⟨oc_Span_text, od_Span_text, .func (PySem.W.fnOf "text" "Span.text" (defArgs s_Span_text) (defBody s_Span_text) (defScope s_Span_text) .none kV_Span_text dc_Span_text pm_Span_text an_Span_text cd_Span_text ct_Span_text), sl_Span_text⟩)
    (c_Span_text : PySem.W.codeIn K cd_Span_text "Span.text" = true)
    (k_Span_text : PySem.W.keepIn K (.ref f_Span_text) = true)
    (a_Span_point : PySem.W.findCls K (.ref C_Span) (.type "type") "point" = some (.get (.builtin "staticmethod.__get__") (.ref p_Span_point) .none (.ref C_Span)))
    (r_Span_point : PySem.W.recIn K p_Span_point "staticmethod" = some (.ref f_Span_point :: rr_Span_point))
    (rd_Span_point : PySem.W.readsIn K C_Span (.type "type") = true)
    (ga_Span_point : PySem.W.specialIn K (.ref C_Span) "__getattribute__" = some (some (.builtin "type.__getattribute__")))
    (l_Span_point : K.lookup f_Span_point = some ⟨oc_Span_point, od_Span_point, .func (PySem.W.fnOf "point" "Span.point" (defArgs s_Span_point) (defBody s_Span_point) (defScope s_Span_point) .none kV_Span_point dc_Span_point pm_Span_point an_Span_point cd_Span_point ct_Span_point), sl_Span_point⟩)
    (c_Span_point : PySem.W.codeIn K cd_Span_point "Span.point" = true)
    (k_Span_point : PySem.W.keepIn K (.ref f_Span_point) = true)
    (a__law_start : PySem.W.nsIn K mainGlobals "_law_start" = some (some (.ref f__law_start)))
    (l__law_start : K.lookup f__law_start = some ⟨oc__law_start, od__law_start, .func (PySem.W.fnOf "_law_start" "_law_start" (defArgs s__law_start) (defBody s__law_start) (defScope s__law_start) .none kV__law_start dc__law_start pm__law_start an__law_start cd__law_start ct__law_start), sl__law_start⟩)
    (c__law_start : PySem.W.codeIn K cd__law_start "_law_start" = true)
    (k__law_start : PySem.W.keepIn K (.ref f__law_start) = true)
    (a__law_digit : PySem.W.nsIn K mainGlobals "_law_digit" = some (some (.ref f__law_digit)))
    (l__law_digit : K.lookup f__law_digit = some ⟨oc__law_digit, od__law_digit, .func (PySem.W.fnOf "_law_digit" "_law_digit" (defArgs s__law_digit) (defBody s__law_digit) (defScope s__law_digit) .none kV__law_digit dc__law_digit pm__law_digit an__law_digit cd__law_digit ct__law_digit), sl__law_digit⟩)
    (c__law_digit : PySem.W.codeIn K cd__law_digit "_law_digit" = true)
    (k__law_digit : PySem.W.keepIn K (.ref f__law_digit) = true)
    (a__law_fraction : PySem.W.nsIn K mainGlobals "_law_fraction" = some (some (.ref f__law_fraction)))
    (l__law_fraction : K.lookup f__law_fraction = some ⟨oc__law_fraction, od__law_fraction, .func (PySem.W.fnOf "_law_fraction" "_law_fraction" (defArgs s__law_fraction) (defBody s__law_fraction) (defScope s__law_fraction) .none kV__law_fraction dc__law_fraction pm__law_fraction an__law_fraction cd__law_fraction ct__law_fraction), sl__law_fraction⟩)
    (c__law_fraction : PySem.W.codeIn K cd__law_fraction "_law_fraction" = true)
    (k__law_fraction : PySem.W.keepIn K (.ref f__law_fraction) = true)
    (a__law_less : PySem.W.nsIn K mainGlobals "_law_less" = some (some (.ref f__law_less)))
    (l__law_less : K.lookup f__law_less = some ⟨oc__law_less, od__law_less, .func (PySem.W.fnOf "_law_less" "_law_less" (defArgs s__law_less) (defBody s__law_less) (defScope s__law_less) .none kV__law_less dc__law_less pm__law_less an__law_less cd__law_less ct__law_less), sl__law_less⟩)
    (c__law_less : PySem.W.codeIn K cd__law_less "_law_less" = true)
    (k__law_less : PySem.W.keepIn K (.ref f__law_less) = true)
    (a__law_plus : PySem.W.nsIn K mainGlobals "_law_plus" = some (some (.ref f__law_plus)))
    (l__law_plus : K.lookup f__law_plus = some ⟨oc__law_plus, od__law_plus, .func (PySem.W.fnOf "_law_plus" "_law_plus" (defArgs s__law_plus) (defBody s__law_plus) (defScope s__law_plus) .none kV__law_plus dc__law_plus pm__law_plus an__law_plus cd__law_plus ct__law_plus), sl__law_plus⟩)
    (c__law_plus : PySem.W.codeIn K cd__law_plus "_law_plus" = true)
    (k__law_plus : PySem.W.keepIn K (.ref f__law_plus) = true)
    (a__law_minus : PySem.W.nsIn K mainGlobals "_law_minus" = some (some (.ref f__law_minus)))
    (l__law_minus : K.lookup f__law_minus = some ⟨oc__law_minus, od__law_minus, .func (PySem.W.fnOf "_law_minus" "_law_minus" (defArgs s__law_minus) (defBody s__law_minus) (defScope s__law_minus) .none kV__law_minus dc__law_minus pm__law_minus an__law_minus cd__law_minus ct__law_minus), sl__law_minus⟩)
    (c__law_minus : PySem.W.codeIn K cd__law_minus "_law_minus" = true)
    (k__law_minus : PySem.W.keepIn K (.ref f__law_minus) = true)
    (a__law_ends : PySem.W.nsIn K mainGlobals "_law_ends" = some (some (.ref f__law_ends)))
    (l__law_ends : K.lookup f__law_ends = some ⟨oc__law_ends, od__law_ends, .func (PySem.W.fnOf "_law_ends" "_law_ends" (defArgs s__law_ends) (defBody s__law_ends) (defScope s__law_ends) .none kV__law_ends dc__law_ends pm__law_ends an__law_ends cd__law_ends ct__law_ends), sl__law_ends⟩)
    (c__law_ends : PySem.W.codeIn K cd__law_ends "_law_ends" = true)
    (k__law_ends : PySem.W.keepIn K (.ref f__law_ends) = true)
    (a__law_between : PySem.W.nsIn K mainGlobals "_law_between" = some (some (.ref f__law_between)))
    (l__law_between : K.lookup f__law_between = some ⟨oc__law_between, od__law_between, .func (PySem.W.fnOf "_law_between" "_law_between" (defArgs s__law_between) (defBody s__law_between) (defScope s__law_between) .none kV__law_between dc__law_between pm__law_between an__law_between cd__law_between ct__law_between), sl__law_between⟩)
    (c__law_between : PySem.W.codeIn K cd__law_between "_law_between" = true)
    (k__law_between : PySem.W.keepIn K (.ref f__law_between) = true)
    (a__law_second : PySem.W.nsIn K mainGlobals "_law_second" = some (some (.ref f__law_second)))
    (l__law_second : K.lookup f__law_second = some ⟨oc__law_second, od__law_second, .func (PySem.W.fnOf "_law_second" "_law_second" (defArgs s__law_second) (defBody s__law_second) (defScope s__law_second) .none kV__law_second dc__law_second pm__law_second an__law_second cd__law_second ct__law_second), sl__law_second⟩)
    (c__law_second : PySem.W.codeIn K cd__law_second "_law_second" = true)
    (k__law_second : PySem.W.keepIn K (.ref f__law_second) = true)
    (a__law_lowest : PySem.W.nsIn K mainGlobals "_law_lowest" = some (some (.ref f__law_lowest)))
    (l__law_lowest : K.lookup f__law_lowest = some ⟨oc__law_lowest, od__law_lowest, .func (PySem.W.fnOf "_law_lowest" "_law_lowest" (defArgs s__law_lowest) (defBody s__law_lowest) (defScope s__law_lowest) .none kV__law_lowest dc__law_lowest pm__law_lowest an__law_lowest cd__law_lowest ct__law_lowest), sl__law_lowest⟩)
    (c__law_lowest : PySem.W.codeIn K cd__law_lowest "_law_lowest" = true)
    (k__law_lowest : PySem.W.keepIn K (.ref f__law_lowest) = true)
    (a__law_written : PySem.W.nsIn K mainGlobals "_law_written" = some (some (.ref f__law_written)))
    (l__law_written : K.lookup f__law_written = some ⟨oc__law_written, od__law_written, .func (PySem.W.fnOf "_law_written" "_law_written" (defArgs s__law_written) (defBody s__law_written) (defScope s__law_written) .none kV__law_written dc__law_written pm__law_written an__law_written cd__law_written ct__law_written), sl__law_written⟩)
    (c__law_written : PySem.W.codeIn K cd__law_written "_law_written" = true)
    (k__law_written : PySem.W.keepIn K (.ref f__law_written) = true)
    (a__law_equals : PySem.W.nsIn K mainGlobals "_law_equals" = some (some (.ref f__law_equals)))
    (l__law_equals : K.lookup f__law_equals = some ⟨oc__law_equals, od__law_equals, .func (PySem.W.fnOf "_law_equals" "_law_equals" (defArgs s__law_equals) (defBody s__law_equals) (defScope s__law_equals) .none kV__law_equals dc__law_equals pm__law_equals an__law_equals cd__law_equals ct__law_equals), sl__law_equals⟩)
    (c__law_equals : PySem.W.codeIn K cd__law_equals "_law_equals" = true)
    (k__law_equals : PySem.W.keepIn K (.ref f__law_equals) = true)
    (a__law_is_span : PySem.W.nsIn K mainGlobals "_law_is_span" = some (some (.ref f__law_is_span)))
    (l__law_is_span : K.lookup f__law_is_span = some ⟨oc__law_is_span, od__law_is_span, .func (PySem.W.fnOf "_law_is_span" "_law_is_span" (defArgs s__law_is_span) (defBody s__law_is_span) (defScope s__law_is_span) .none kV__law_is_span dc__law_is_span pm__law_is_span an__law_is_span cd__law_is_span ct__law_is_span), sl__law_is_span⟩)
    (c__law_is_span : PySem.W.codeIn K cd__law_is_span "_law_is_span" = true)
    (k__law_is_span : PySem.W.keepIn K (.ref f__law_is_span) = true)
    (a__law_order : PySem.W.nsIn K mainGlobals "_law_order" = some (some (.ref f__law_order)))
    (l__law_order : K.lookup f__law_order = some ⟨oc__law_order, od__law_order, .func (PySem.W.fnOf "_law_order" "_law_order" (defArgs s__law_order) (defBody s__law_order) (defScope s__law_order) .none kV__law_order dc__law_order pm__law_order an__law_order cd__law_order ct__law_order), sl__law_order⟩)
    (c__law_order : PySem.W.codeIn K cd__law_order "_law_order" = true)
    (k__law_order : PySem.W.keepIn K (.ref f__law_order) = true)
    (a__law_apart : PySem.W.nsIn K mainGlobals "_law_apart" = some (some (.ref f__law_apart)))
    (l__law_apart : K.lookup f__law_apart = some ⟨oc__law_apart, od__law_apart, .func (PySem.W.fnOf "_law_apart" "_law_apart" (defArgs s__law_apart) (defBody s__law_apart) (defScope s__law_apart) .none kV__law_apart dc__law_apart pm__law_apart an__law_apart cd__law_apart ct__law_apart), sl__law_apart⟩)
    (c__law_apart : PySem.W.codeIn K cd__law_apart "_law_apart" = true)
    (k__law_apart : PySem.W.keepIn K (.ref f__law_apart) = true)
    (a__law_common : PySem.W.nsIn K mainGlobals "_law_common" = some (some (.ref f__law_common)))
    (l__law_common : K.lookup f__law_common = some ⟨oc__law_common, od__law_common, .func (PySem.W.fnOf "_law_common" "_law_common" (defArgs s__law_common) (defBody s__law_common) (defScope s__law_common) .none kV__law_common dc__law_common pm__law_common an__law_common cd__law_common ct__law_common), sl__law_common⟩)
    (c__law_common : PySem.W.codeIn K cd__law_common "_law_common" = true)
    (k__law_common : PySem.W.keepIn K (.ref f__law_common) = true)
    (a__law_same : PySem.W.nsIn K mainGlobals "_law_same" = some (some (.ref f__law_same)))
    (l__law_same : K.lookup f__law_same = some ⟨oc__law_same, od__law_same, .func (PySem.W.fnOf "_law_same" "_law_same" (defArgs s__law_same) (defBody s__law_same) (defScope s__law_same) .none kV__law_same dc__law_same pm__law_same an__law_same cd__law_same ct__law_same), sl__law_same⟩)
    (c__law_same : PySem.W.codeIn K cd__law_same "_law_same" = true)
    (k__law_same : PySem.W.keepIn K (.ref f__law_same) = true)
    (a__law_two : PySem.W.nsIn K mainGlobals "_law_two" = some (some (.ref f__law_two)))
    (l__law_two : K.lookup f__law_two = some ⟨oc__law_two, od__law_two, .func (PySem.W.fnOf "_law_two" "_law_two" (defArgs s__law_two) (defBody s__law_two) (defScope s__law_two) .none kV__law_two dc__law_two pm__law_two an__law_two cd__law_two ct__law_two), sl__law_two⟩)
    (c__law_two : PySem.W.codeIn K cd__law_two "_law_two" = true)
    (k__law_two : PySem.W.keepIn K (.ref f__law_two) = true)
    (a__law_contains : PySem.W.nsIn K mainGlobals "_law_contains" = some (some (.ref f__law_contains)))
    (l__law_contains : K.lookup f__law_contains = some ⟨oc__law_contains, od__law_contains, .func (PySem.W.fnOf "_law_contains" "_law_contains" (defArgs s__law_contains) (defBody s__law_contains) (defScope s__law_contains) .none kV__law_contains dc__law_contains pm__law_contains an__law_contains cd__law_contains ct__law_contains), sl__law_contains⟩)
    (c__law_contains : PySem.W.codeIn K cd__law_contains "_law_contains" = true)
    (k__law_contains : PySem.W.keepIn K (.ref f__law_contains) = true)
    (a__law_crossed : PySem.W.nsIn K mainGlobals "_law_crossed" = some (some (.ref f__law_crossed)))
    (l__law_crossed : K.lookup f__law_crossed = some ⟨oc__law_crossed, od__law_crossed, .func (PySem.W.fnOf "_law_crossed" "_law_crossed" (defArgs s__law_crossed) (defBody s__law_crossed) (defScope s__law_crossed) .none kV__law_crossed dc__law_crossed pm__law_crossed an__law_crossed cd__law_crossed ct__law_crossed), sl__law_crossed⟩)
    (c__law_crossed : PySem.W.codeIn K cd__law_crossed "_law_crossed" = true)
    (k__law_crossed : PySem.W.keepIn K (.ref f__law_crossed) = true)
    (a__law_alone : PySem.W.nsIn K mainGlobals "_law_alone" = some (some (.ref f__law_alone)))
    (l__law_alone : K.lookup f__law_alone = some ⟨oc__law_alone, od__law_alone, .func (PySem.W.fnOf "_law_alone" "_law_alone" (defArgs s__law_alone) (defBody s__law_alone) (defScope s__law_alone) .none kV__law_alone dc__law_alone pm__law_alone an__law_alone cd__law_alone ct__law_alone), sl__law_alone⟩)
    (c__law_alone : PySem.W.codeIn K cd__law_alone "_law_alone" = true)
    (k__law_alone : PySem.W.keepIn K (.ref f__law_alone) = true)
    (a_law : PySem.W.nsIn K mainGlobals "law" = some (some (.ref f_law)))
    (l_law : K.lookup f_law = some ⟨oc_law, od_law, .func (PySem.W.fnOf "law" "law" (defArgs s_law) (defBody s_law) (defScope s_law) .none kV_law dc_law pm_law an_law cd_law ct_law), sl_law⟩)
    (c_law : PySem.W.codeIn K cd_law "law" = true)
    (k_law : PySem.W.keepIn K (.ref f_law) = true)
    (a_Crossed___init__ : PySem.W.findIn K (.ref C_Crossed) "__init__" = some (some (.ref f_Crossed___init__)))
    (i_Crossed___init__ : PySem.W.typeIn K (.ref f_Crossed___init__) = some (.type "function"))
    (l_Crossed___init__ : K.lookup f_Crossed___init__ = some ⟨oc_Crossed___init__, od_Crossed___init__, .func (PySem.W.fnOf "__init__" "Crossed.__init__" (defArgs s_Crossed___init__) (defBody s_Crossed___init__) (defScope s_Crossed___init__) .none kV_Crossed___init__ dc_Crossed___init__ pm_Crossed___init__ an_Crossed___init__ cd_Crossed___init__ ct_Crossed___init__), sl_Crossed___init__⟩)
    (c_Crossed___init__ : PySem.W.codeIn K cd_Crossed___init__ "Crossed.__init__" = true)
    (k_Crossed___init__ : PySem.W.keepIn K (.ref f_Crossed___init__) = true)
    (z_abs : PySem.W.nsIn K mainGlobals "abs" = some none)
    (z_len : PySem.W.nsIn K mainGlobals "len" = some none)
    (z_int : PySem.W.nsIn K mainGlobals "int" = some none)
    (z_bool : PySem.W.nsIn K mainGlobals "bool" = some none)
    (z_str : PySem.W.nsIn K mainGlobals "str" = some none)
    (z_range : PySem.W.nsIn K mainGlobals "range" = some none)
    (z_isinstance : PySem.W.nsIn K mainGlobals "isinstance" = some none)
    (z_ValueError : PySem.W.nsIn K mainGlobals "ValueError" = some none)
    (v_gcd : PySem.W.nsIn K mainGlobals "gcd" = some (some (.builtin "math.gcd"))) :
    ∃ fd : FuncData, (∀ (s : Shared) (v : Value), BindsTo s fd ⟨[v], []⟩ [("script", v)]) ∧ ∀ base : Heap, K.In base → base.Ns mainGlobals mg → FnOk l.prog w K mg base (L2N.CX l.prog w) 10 fa fd ["script"] (spD 1 (S_law K)) := by
  have e := hfa.symm.trans (PySem.W.mg_of X Gn a_law)
  cases e
  have cls_Ratio : Cls K C_Ratio := ⟨pg_Ratio, hd_Ratio, po_Ratio, sa_Ratio⟩
  have S0_Ratio : RatC K C_Ratio := ⟨⟨cls_Ratio, ha_Ratio, gs, gt, mo_Ratio⟩, no_top_Ratio, no_bottom_Ratio⟩
  have cls_Span : Cls K C_Span := ⟨pg_Span, hd_Span, po_Span, sa_Span⟩
  have S0_Span : SpnC K C_Span := ⟨⟨cls_Span, ha_Span, gs, gt, mo_Span⟩, no_low_Span, no_high_Span⟩
  have ox_Crossed : OexC K C_Crossed := ⟨⟨_, _, _, _, _, _, _, _, _, _, _, _, _, _, _, l_Crossed, rf_Crossed⟩, sa_Crossed, ex_Crossed, ty_Crossed, kc_Crossed⟩
  have F_Ratio___init__ : FunW K "__init__" "Ratio.__init__" s_Ratio___init__ [V.int 1] f_Ratio___init__ _ := ⟨⟨_, _, _, _, _, _, _, _, _, _, rfl, l_Ratio___init__, c_Ratio___init__, .inr ⟨by simp, _, _, _, _, rfl, lT_Ratio___init__, rfl, .cons ⟨_, rfl⟩ .nil⟩, .inl rfl⟩, k_Ratio___init__⟩
  obtain ⟨ds, hds, b_Ratio___init__⟩ := F_Ratio___init__.binds1 (ps := ["self", "top", "bottom"]) 3 1 (by simp) rfl fun T kV doc pm an cdv ct us its hl hl2 => match us, its, hl, hl2 with
    | [_, _, _], [e], _, _ => ⟨_, rfl, rfl⟩
  have ed : ds = [] := by
    cases hds
    rfl
  subst ed
  obtain ⟨ds1, hds1, b1_Ratio___init__⟩ := F_Ratio___init__.binds1 (ps := ["self", "top", "bottom"]) 2 0 (by simp) rfl fun T kV doc pm an cdv ct us its hl hl2 => match us, its, hl, hl2 with
    | [_, _], [e], _, _ => ⟨_, rfl, rfl⟩
  have F_Ratio_compare := fun_mk (st := s_Ratio_compare) l_Ratio_compare c_Ratio_compare k_Ratio_compare
  have b_Ratio_compare := F_Ratio_compare.binds (ps := ["self", "other"]) fun _ _ _ _ _ _ us hl => match us, hl with | [_, _], _ => rfl
  have F_Ratio_text := fun_mk (st := s_Ratio_text) l_Ratio_text c_Ratio_text k_Ratio_text
  have b_Ratio_text := F_Ratio_text.binds (ps := ["self"]) fun _ _ _ _ _ _ us hl => match us, hl with | [_], _ => rfl
  have F_Ratio___eq__ := fun_mk (st := s_Ratio___eq__) l_Ratio___eq__ c_Ratio___eq__ k_Ratio___eq__
  have b_Ratio___eq__ := F_Ratio___eq__.binds (ps := ["self", "other"]) fun _ _ _ _ _ _ us hl => match us, hl with | [_, _], _ => rfl
  have F_Ratio___sub__ := fun_mk (st := s_Ratio___sub__) l_Ratio___sub__ c_Ratio___sub__ k_Ratio___sub__
  have b_Ratio___sub__ := F_Ratio___sub__.binds (ps := ["self", "other"]) fun _ _ _ _ _ _ us hl => match us, hl with | [_, _], _ => rfl
  have F_lesser := fun_mk (st := s_lesser) l_lesser c_lesser k_lesser
  have b_lesser := F_lesser.binds (ps := ["first", "second"]) fun _ _ _ _ _ _ us hl => match us, hl with | [_, _], _ => rfl
  have F_greater := fun_mk (st := s_greater) l_greater c_greater k_greater
  have b_greater := F_greater.binds (ps := ["first", "second"]) fun _ _ _ _ _ _ us hl => match us, hl with | [_, _], _ => rfl
  have F_Span___init__ := fun_mk (st := s_Span___init__) l_Span___init__ c_Span___init__ k_Span___init__
  have b_Span___init__ := F_Span___init__.binds (ps := ["self", "low", "high"]) fun _ _ _ _ _ _ us hl => match us, hl with | [_, _, _], _ => rfl
  have F_Span___eq__ := fun_mk (st := s_Span___eq__) l_Span___eq__ c_Span___eq__ k_Span___eq__
  have b_Span___eq__ := F_Span___eq__.binds (ps := ["self", "other"]) fun _ _ _ _ _ _ us hl => match us, hl with | [_, _], _ => rfl
  have F_Span___contains__ := fun_mk (st := s_Span___contains__) l_Span___contains__ c_Span___contains__ k_Span___contains__
  have b_Span___contains__ := F_Span___contains__.binds (ps := ["self", "ratio"]) fun _ _ _ _ _ _ us hl => match us, hl with | [_, _], _ => rfl
  have F_Span___and__ := fun_mk (st := s_Span___and__) l_Span___and__ c_Span___and__ k_Span___and__
  have b_Span___and__ := F_Span___and__.binds (ps := ["self", "other"]) fun _ _ _ _ _ _ us hl => match us, hl with | [_, _], _ => rfl
  have F_Span_at_most := fun_mk (st := s_Span_at_most) l_Span_at_most c_Span_at_most k_Span_at_most
  have b_Span_at_most := F_Span_at_most.binds (ps := ["self", "other"]) fun _ _ _ _ _ _ us hl => match us, hl with | [_, _], _ => rfl
  have F_Span_length := fun_mk (st := s_Span_length) l_Span_length c_Span_length k_Span_length
  have b_Span_length := F_Span_length.binds (ps := ["self"]) fun _ _ _ _ _ _ us hl => match us, hl with | [_], _ => rfl
  have F_Span_text := fun_mk (st := s_Span_text) l_Span_text c_Span_text k_Span_text
  have b_Span_text := F_Span_text.binds (ps := ["self"]) fun _ _ _ _ _ _ us hl => match us, hl with | [_], _ => rfl
  have F_Span_point := fun_mk (st := s_Span_point) l_Span_point c_Span_point k_Span_point
  have b_Span_point := F_Span_point.binds (ps := ["ratio"]) fun _ _ _ _ _ _ us hl => match us, hl with | [_], _ => rfl
  have F__law_start := fun_mk (st := s__law_start) l__law_start c__law_start k__law_start
  have b__law_start := F__law_start.binds (ps := ["script"]) fun _ _ _ _ _ _ us hl => match us, hl with | [_], _ => rfl
  have F__law_digit := fun_mk (st := s__law_digit) l__law_digit c__law_digit k__law_digit
  have b__law_digit := F__law_digit.binds (ps := ["pot", "many"]) fun _ _ _ _ _ _ us hl => match us, hl with | [_, _], _ => rfl
  have F__law_fraction := fun_mk (st := s__law_fraction) l__law_fraction c__law_fraction k__law_fraction
  have b__law_fraction := F__law_fraction.binds (ps := ["pot"]) fun _ _ _ _ _ _ us hl => match us, hl with | [_], _ => rfl
  have F__law_less := fun_mk (st := s__law_less) l__law_less c__law_less k__law_less
  have b__law_less := F__law_less.binds (ps := ["p", "q"]) fun _ _ _ _ _ _ us hl => match us, hl with | [_, _], _ => rfl
  have F__law_plus := fun_mk (st := s__law_plus) l__law_plus c__law_plus k__law_plus
  have b__law_plus := F__law_plus.binds (ps := ["p", "q"]) fun _ _ _ _ _ _ us hl => match us, hl with | [_, _], _ => rfl
  have F__law_minus := fun_mk (st := s__law_minus) l__law_minus c__law_minus k__law_minus
  have b__law_minus := F__law_minus.binds (ps := ["p", "q"]) fun _ _ _ _ _ _ us hl => match us, hl with | [_, _], _ => rfl
  have F__law_ends := fun_mk (st := s__law_ends) l__law_ends c__law_ends k__law_ends
  have b__law_ends := F__law_ends.binds (ps := ["pot"]) fun _ _ _ _ _ _ us hl => match us, hl with | [_], _ => rfl
  have F__law_between := fun_mk (st := s__law_between) l__law_between c__law_between k__law_between
  have b__law_between := F__law_between.binds (ps := ["pot", "s"]) fun _ _ _ _ _ _ us hl => match us, hl with | [_, _], _ => rfl
  have F__law_second := fun_mk (st := s__law_second) l__law_second c__law_second k__law_second
  have b__law_second := F__law_second.binds (ps := ["pot", "s", "step"]) fun _ _ _ _ _ _ us hl => match us, hl with | [_, _, _], _ => rfl
  have F__law_lowest := fun_mk (st := s__law_lowest) l__law_lowest c__law_lowest k__law_lowest
  have b__law_lowest := F__law_lowest.binds (ps := ["p"]) fun _ _ _ _ _ _ us hl => match us, hl with | [_], _ => rfl
  have F__law_written := fun_mk (st := s__law_written) l__law_written c__law_written k__law_written
  have b__law_written := F__law_written.binds (ps := ["p"]) fun _ _ _ _ _ _ us hl => match us, hl with | [_], _ => rfl
  have F__law_equals := fun_mk (st := s__law_equals) l__law_equals c__law_equals k__law_equals
  have b__law_equals := F__law_equals.binds (ps := ["told", "p"]) fun _ _ _ _ _ _ us hl => match us, hl with | [_, _], _ => rfl
  have F__law_is_span := fun_mk (st := s__law_is_span) l__law_is_span c__law_is_span k__law_is_span
  have b__law_is_span := F__law_is_span.binds (ps := ["told", "low", "high"]) fun _ _ _ _ _ _ us hl => match us, hl with | [_, _, _], _ => rfl
  have F__law_order := fun_mk (st := s__law_order) l__law_order c__law_order k__law_order
  have b__law_order := F__law_order.binds (ps := ["a", "b", "s", "t"]) fun _ _ _ _ _ _ us hl => match us, hl with | [_, _, _, _], _ => rfl
  have F__law_apart := fun_mk (st := s__law_apart) l__law_apart c__law_apart k__law_apart
  have b__law_apart := F__law_apart.binds (ps := ["a", "b"]) fun _ _ _ _ _ _ us hl => match us, hl with | [_, _], _ => rfl
  have F__law_common := fun_mk (st := s__law_common) l__law_common c__law_common k__law_common
  have b__law_common := F__law_common.binds (ps := ["a", "b", "s", "t"]) fun _ _ _ _ _ _ us hl => match us, hl with | [_, _, _, _], _ => rfl
  have F__law_same := fun_mk (st := s__law_same) l__law_same c__law_same k__law_same
  have b__law_same := F__law_same.binds (ps := ["a", "b", "s", "t"]) fun _ _ _ _ _ _ us hl => match us, hl with | [_, _, _, _], _ => rfl
  have F__law_two := fun_mk (st := s__law_two) l__law_two c__law_two k__law_two
  have b__law_two := F__law_two.binds (ps := ["a", "b", "s", "t"]) fun _ _ _ _ _ _ us hl => match us, hl with | [_, _, _, _], _ => rfl
  have F__law_contains := fun_mk (st := s__law_contains) l__law_contains c__law_contains k__law_contains
  have b__law_contains := F__law_contains.binds (ps := ["a", "s", "p"]) fun _ _ _ _ _ _ us hl => match us, hl with | [_, _, _], _ => rfl
  have F__law_crossed := fun_mk (st := s__law_crossed) l__law_crossed c__law_crossed k__law_crossed
  have b__law_crossed := F__law_crossed.binds (ps := ["low", "high"]) fun _ _ _ _ _ _ us hl => match us, hl with | [_, _], _ => rfl
  have F__law_alone := fun_mk (st := s__law_alone) l__law_alone c__law_alone k__law_alone
  have b__law_alone := F__law_alone.binds (ps := ["a", "s", "step"]) fun _ _ _ _ _ _ us hl => match us, hl with | [_, _, _], _ => rfl
  have F_law := fun_mk (st := s_law) l_law c_law k_law
  have b_law := F_law.binds (ps := ["script"]) fun _ _ _ _ _ _ us hl => match us, hl with | [_], _ => rfl
  have F_Crossed___init__ := fun_mk (st := s_Crossed___init__) l_Crossed___init__ c_Crossed___init__ k_Crossed___init__
  have b_Crossed___init__ := F_Crossed___init__.binds (ps := ["self", "low", "high"]) fun _ _ _ _ _ _ us hl => match us, hl with | [_, _, _], _ => rfl
  refine ⟨PySem.W.fnOf "law" "law" (defArgs s_law) (defBody s_law) (defScope s_law) .none kV_law dc_law pm_law an_law cd_law ct_law, fun s v => .of_eq rfl, fun base _ _ => ?_⟩
  have x1_Crossed : Exc ⟨l.prog, w, K, mg, base⟩ "Crossed" C_Crossed ["low", "high"] := ⟨⟨f_Crossed___init__, _, _, okx_Crossed ox_Crossed no_low_Crossed no_high_Crossed F_Crossed___init__, b_Crossed___init__, a_Crossed___init__, i_Crossed___init__⟩, ox_Crossed, PySem.W.mg_of X Gn a_Crossed⟩
  have kinds0_Ratio : KindsC ⟨l.prog, w, K, mg, base⟩ C_Ratio := by
    constructor
    · intro T h
      simp only [kinds5, List.mem_cons, List.not_mem_nil, or_false] at h
      rcases h with rfl | rfl | rfl | rfl | rfl
      · exact kit_noT is_Ratio ty_Ratio kt_NoneType_Ratio
      · exact kit_noT is_Ratio ty_Ratio kt_int_Ratio
      · exact kit_noT is_Ratio ty_Ratio kt_str_Ratio
      · exact kit_noT is_Ratio ty_Ratio kt_list_Ratio
      · exact kit_noT is_Ratio ty_Ratio kt_tuple_Ratio
    · intro T h
      simp only [kinds5, List.mem_cons, List.not_mem_nil, or_false] at h
      rcases h with rfl | rfl | rfl | rfl | rfl
      · exact sb_NoneType_Ratio
      · exact sb_int_Ratio
      · exact sb_str_Ratio
      · exact sb_list_Ratio
      · exact sb_tuple_Ratio
    · intro T h
      simp only [kinds5, List.mem_cons, List.not_mem_nil, or_false] at h
      rcases h with rfl | rfl | rfl | rfl | rfl
      · exact nf_NoneType_Ratio
      · exact nf_int_Ratio
      · exact nf_str_Ratio
      · exact nf_list_Ratio
      · exact nf_tuple_Ratio
  have kinds0_Span : KindsC ⟨l.prog, w, K, mg, base⟩ C_Span := by
    constructor
    · intro T h
      simp only [kinds5, List.mem_cons, List.not_mem_nil, or_false] at h
      rcases h with rfl | rfl | rfl | rfl | rfl
      · exact kit_noT is_Span ty_Span kt_NoneType_Span
      · exact kit_noT is_Span ty_Span kt_int_Span
      · exact kit_noT is_Span ty_Span kt_str_Span
      · exact kit_noT is_Span ty_Span kt_list_Span
      · exact kit_noT is_Span ty_Span kt_tuple_Span
    · intro T h
      simp only [kinds5, List.mem_cons, List.not_mem_nil, or_false] at h
      rcases h with rfl | rfl | rfl | rfl | rfl
      · exact sb_NoneType_Span
      · exact sb_int_Span
      · exact sb_str_Span
      · exact sb_list_Span
      · exact sb_tuple_Span
    · intro T h
      simp only [kinds5, List.mem_cons, List.not_mem_nil, or_false] at h
      rcases h with rfl | rfl | rfl | rfl | rfl
      · exact nf_NoneType_Span
      · exact nf_int_Span
      · exact nf_str_Span
      · exact nf_list_Span
      · exact nf_tuple_Span
  have T : Txt ⟨l.prog, w, K, mg, base⟩ C_Ratio C_Span C_Apart C_Crossed C_CarryError := { n_abs := PySem.W.mg_none_of X Gn z_abs, n_len := PySem.W.mg_none_of X Gn z_len, n_int := PySem.W.mg_none_of X Gn z_int, n_bool := PySem.W.mg_none_of X Gn z_bool, n_str := PySem.W.mg_none_of X Gn z_str, n_range := PySem.W.mg_none_of X Gn z_range, n_isinstance := PySem.W.mg_none_of X Gn z_isinstance, n_ValueError := PySem.W.mg_none_of X Gn z_ValueError, mg_gcd := PySem.W.mg_of X Gn v_gcd, mg_Ratio := PySem.W.mg_of X Gn a_Ratio, mg_Span := PySem.W.mg_of X Gn a_Span, mg_Apart := PySem.W.mg_of X Gn a_Apart, mg_Crossed := PySem.W.mg_of X Gn a_Crossed, mg_CarryError := PySem.W.mg_of X Gn a_CarryError, R_Ratio := S0_Ratio, S_Span := S0_Span, kinds_Ratio := kinds0_Ratio, kinds_Span := kinds0_Span, x0_Apart := ⟨xi_Apart, kc_Apart, ex_Apart, ty_Apart, PySem.W.mg_of X Gn a_Apart⟩, XC_Apart := ⟨⟨ga_Apart, gg_Apart, ex_Apart, hd_Apart⟩, is_Apart, ha_Apart, gs, gt, mo_Apart⟩, XC_Crossed := ⟨⟨ga_Crossed, gg_Crossed, ex_Crossed, hd_Crossed⟩, is_Crossed, ha_Crossed, gs, gt, mo_Crossed⟩, x_Crossed := x1_Crossed, no_Crossed_low := no_low_Crossed, no_Crossed_high := no_high_Crossed, is_Ratio_Ratio := kit_self, is_Span_Span := kit_self, is_Ratio_Span := kit_no su_Ratio is_Span ty_Span su_Ratio_Span, is_Span_Ratio := kit_no su_Span is_Ratio ty_Ratio su_Span_Ratio, is_Apart_Apart := kit_self, is_Apart_Crossed := kit_no su_Apart is_Crossed ty_Crossed su_Apart_Crossed, is_Crossed_Crossed := kit_self, is_Crossed_Apart := kit_no su_Crossed is_Apart ty_Apart su_Crossed_Apart, nf_Span_Ratio := nf_of su_Ratio_Span, nf_Ratio_Span := nf_of su_Span_Ratio, isT_Apart_ValueError := kit_val sT_Apart_ValueError, isT_Crossed_ValueError := kit_val sT_Crossed_ValueError, ex_Apart_CarryError := PySem.W.exm_ref ex_CarryError hd_CarryError ty_CarryError su_Apart_CarryError, ex_Crossed_CarryError := PySem.W.exm_ref ex_CarryError hd_CarryError ty_CarryError su_Crossed_CarryError }
  have k_Ratio : Mak ⟨l.prog, w, K, mg, base⟩ _ "Ratio" C_Ratio _ _ [] := ⟨⟨f_Ratio___init__, ok_init T F_Ratio___init__ b_Ratio___init__ .nil rfl, ⟨mk_Ratio, a_Ratio___init__, i_Ratio___init__, kc_Ratio⟩⟩, T.mg_Ratio⟩
  have m_Ratio_compare : Met ⟨l.prog, w, K, mg, base⟩ _ C_Ratio ["top", "bottom"] "compare" _ _ [] := ⟨⟨f_Ratio_compare, ok_qcmp T F_Ratio_compare b_Ratio_compare, ⟨a_Ratio_compare, i_Ratio_compare, k_Ratio_compare⟩⟩, cls_Ratio, by decide +kernel⟩
  have m_Ratio_text : Met ⟨l.prog, w, K, mg, base⟩ _ C_Ratio ["top", "bottom"] "text" _ _ [] := ⟨⟨f_Ratio_text, ok_qtext T F_Ratio_text b_Ratio_text, ⟨a_Ratio_text, i_Ratio_text, k_Ratio_text⟩⟩, cls_Ratio, by decide +kernel⟩
  have o_Ratio___eq__ : Opr ⟨l.prog, w, K, mg, base⟩ _ C_Ratio "__eq__" _ _ := ⟨⟨f_Ratio___eq__, ok_qeq T F_Ratio___eq__ b_Ratio___eq__, a_Ratio___eq__, i_Ratio___eq__⟩, cls_Ratio, sf_Ratio⟩
  have o_Ratio___sub__ : Opr ⟨l.prog, w, K, mg, base⟩ _ C_Ratio "__sub__" _ _ := ⟨⟨f_Ratio___sub__, ok_qsub T k_Ratio F_Ratio___sub__ b_Ratio___sub__, a_Ratio___sub__, i_Ratio___sub__⟩, cls_Ratio, sf_Ratio⟩
  have c_lesser : Cal ⟨l.prog, w, K, mg, base⟩ _ "lesser" _ _ [] := ⟨⟨_, ok_lesser T m_Ratio_compare F_lesser b_lesser, PySem.W.mg_of X Gn a_lesser, k_lesser⟩⟩
  have c_greater : Cal ⟨l.prog, w, K, mg, base⟩ _ "greater" _ _ [] := ⟨⟨_, ok_greater T m_Ratio_compare F_greater b_greater, PySem.W.mg_of X Gn a_greater, k_greater⟩⟩
  have kX_Span : Mak ⟨l.prog, w, K, mg, base⟩ _ "Span" C_Span _ _ [] := ⟨⟨f_Span___init__, ok_sinitX T m_Ratio_compare F_Span___init__ b_Span___init__, ⟨mk_Span, a_Span___init__, i_Span___init__, kc_Span⟩⟩, T.mg_Span⟩
  have k_Span : Mak ⟨l.prog, w, K, mg, base⟩ _ "Span" C_Span _ (S_sinit C_Span C_Ratio) [] := kX_Span.sinit
  have o_Span___eq__ : Opr ⟨l.prog, w, K, mg, base⟩ _ C_Span "__eq__" _ _ := ⟨⟨f_Span___eq__, ok_seq T o_Ratio___eq__ F_Span___eq__ b_Span___eq__, a_Span___eq__, i_Span___eq__⟩, cls_Span, sf_Span⟩
  have o_Span___contains__ : Opr ⟨l.prog, w, K, mg, base⟩ _ C_Span "__contains__" _ _ := ⟨⟨f_Span___contains__, ok_scont T m_Ratio_compare F_Span___contains__ b_Span___contains__, a_Span___contains__, i_Span___contains__⟩, cls_Span, sf_Span⟩
  have o_Span___and__ : Opr ⟨l.prog, w, K, mg, base⟩ _ C_Span "__and__" _ _ := ⟨⟨f_Span___and__, ok_sand T k_Span m_Ratio_compare c_lesser c_greater F_Span___and__ b_Span___and__, a_Span___and__, i_Span___and__⟩, cls_Span, sf_Span⟩
  have m_Span_at_most : Met ⟨l.prog, w, K, mg, base⟩ _ C_Span ["low", "high"] "at_most" _ _ [] := ⟨⟨f_Span_at_most, ok_satm T m_Ratio_compare F_Span_at_most b_Span_at_most, ⟨a_Span_at_most, i_Span_at_most, k_Span_at_most⟩⟩, cls_Span, by decide +kernel⟩
  have m_Span_length : Met ⟨l.prog, w, K, mg, base⟩ _ C_Span ["low", "high"] "length" _ _ [] := ⟨⟨f_Span_length, ok_slen T o_Ratio___sub__ F_Span_length b_Span_length, ⟨a_Span_length, i_Span_length, k_Span_length⟩⟩, cls_Span, by decide +kernel⟩
  have m_Span_text : Met ⟨l.prog, w, K, mg, base⟩ _ C_Span ["low", "high"] "text" _ _ [] := ⟨⟨f_Span_text, ok_stext T m_Ratio_text F_Span_text b_Span_text, ⟨a_Span_text, i_Span_text, k_Span_text⟩⟩, cls_Span, by decide +kernel⟩
  have s_Span_point : Sta ⟨l.prog, w, K, mg, base⟩ _ C_Span "point" _ _ := ⟨⟨f_Span_point, p_Span_point, rr_Span_point, ok_spoint T k_Span F_Span_point b_Span_point, ⟨rd_Span_point, ga_Span_point⟩, a_Span_point, r_Span_point, k_Span_point⟩⟩
  have c__law_start : Cal ⟨l.prog, w, K, mg, base⟩ _ "_law_start" _ _ [] := ⟨⟨_, ok_pot T F__law_start b__law_start, PySem.W.mg_of X Gn a__law_start, k__law_start⟩⟩
  have c__law_digit : Cal ⟨l.prog, w, K, mg, base⟩ _ "_law_digit" _ _ [] := ⟨⟨_, ok_digit T F__law_digit b__law_digit, PySem.W.mg_of X Gn a__law_digit, k__law_digit⟩⟩
  have c__law_fraction : Cal ⟨l.prog, w, K, mg, base⟩ _ "_law_fraction" _ _ [] := ⟨⟨_, ok_fraction T c__law_digit F__law_fraction b__law_fraction, PySem.W.mg_of X Gn a__law_fraction, k__law_fraction⟩⟩
  have c__law_less : Cal ⟨l.prog, w, K, mg, base⟩ _ "_law_less" _ _ [] := ⟨⟨_, ok_less T F__law_less b__law_less, PySem.W.mg_of X Gn a__law_less, k__law_less⟩⟩
  have c__law_plus : Cal ⟨l.prog, w, K, mg, base⟩ _ "_law_plus" _ _ [] := ⟨⟨_, ok_plus T F__law_plus b__law_plus, PySem.W.mg_of X Gn a__law_plus, k__law_plus⟩⟩
  have c__law_minus : Cal ⟨l.prog, w, K, mg, base⟩ _ "_law_minus" _ _ [] := ⟨⟨_, ok_minus T F__law_minus b__law_minus, PySem.W.mg_of X Gn a__law_minus, k__law_minus⟩⟩
  have c__law_ends : Cal ⟨l.prog, w, K, mg, base⟩ _ "_law_ends" _ _ [] := ⟨⟨_, ok_ends T c__law_digit c__law_fraction c__law_less c__law_plus F__law_ends b__law_ends, PySem.W.mg_of X Gn a__law_ends, k__law_ends⟩⟩
  have c__law_between : Cal ⟨l.prog, w, K, mg, base⟩ _ "_law_between" _ _ [] := ⟨⟨_, ok_between T c__law_digit c__law_plus c__law_minus F__law_between b__law_between, PySem.W.mg_of X Gn a__law_between, k__law_between⟩⟩
  have c__law_second : Cal ⟨l.prog, w, K, mg, base⟩ _ "_law_second" _ _ [] := ⟨⟨_, ok_second T c__law_digit c__law_fraction c__law_plus c__law_minus c__law_ends c__law_between F__law_second b__law_second, PySem.W.mg_of X Gn a__law_second, k__law_second⟩⟩
  have c__law_lowest : Cal ⟨l.prog, w, K, mg, base⟩ _ "_law_lowest" _ _ [] := ⟨⟨_, ok_lowest T F__law_lowest b__law_lowest, PySem.W.mg_of X Gn a__law_lowest, k__law_lowest⟩⟩
  have h__law_lowest := okH_lowest T F__law_lowest (PySem.W.mg_of X Gn a__law_lowest) b__law_lowest
  have c__law_written : Cal ⟨l.prog, w, K, mg, base⟩ _ "_law_written" _ _ [] := ⟨⟨_, ok_written T c__law_lowest F__law_written b__law_written, PySem.W.mg_of X Gn a__law_written, k__law_written⟩⟩
  have c__law_equals : Cal ⟨l.prog, w, K, mg, base⟩ _ "_law_equals" _ _ [] := ⟨⟨_, ok_equals T c__law_lowest F__law_equals b__law_equals, PySem.W.mg_of X Gn a__law_equals, k__law_equals⟩⟩
  have h__law_equals := okH_equals T h__law_lowest F__law_equals (PySem.W.mg_of X Gn a__law_equals) b__law_equals
  have c__law_is_span : Cal ⟨l.prog, w, K, mg, base⟩ _ "_law_is_span" _ _ [] := ⟨⟨_, ok_is_span T c__law_equals F__law_is_span b__law_is_span, PySem.W.mg_of X Gn a__law_is_span, k__law_is_span⟩⟩
  have c__law_order : Cal ⟨l.prog, w, K, mg, base⟩ _ "_law_order" _ _ [] := ⟨⟨_, ok_order T m_Span_at_most c__law_less F__law_order b__law_order, PySem.W.mg_of X Gn a__law_order, k__law_order⟩⟩
  have c__law_apart : Cal ⟨l.prog, w, K, mg, base⟩ _ "_law_apart" _ _ [] := ⟨⟨_, ok_apart T o_Span___and__ F__law_apart b__law_apart, PySem.W.mg_of X Gn a__law_apart, k__law_apart⟩⟩
  have c__law_common : Cal ⟨l.prog, w, K, mg, base⟩ _ "_law_common" _ _ [] := ⟨⟨_, ok_common T o_Span___and__ c__law_less c__law_apart c__law_is_span F__law_common b__law_common, PySem.W.mg_of X Gn a__law_common, k__law_common⟩⟩
  have c__law_same : Cal ⟨l.prog, w, K, mg, base⟩ _ "_law_same" _ _ [] := ⟨⟨_, ok_same T o_Span___eq__ c__law_less F__law_same b__law_same, PySem.W.mg_of X Gn a__law_same, k__law_same⟩⟩
  have c__law_two : Cal ⟨l.prog, w, K, mg, base⟩ _ "_law_two" _ _ [] := ⟨⟨_, ok_two T c__law_order c__law_common c__law_same F__law_two b__law_two, PySem.W.mg_of X Gn a__law_two, k__law_two⟩⟩
  have c__law_contains : Cal ⟨l.prog, w, K, mg, base⟩ _ "_law_contains" _ _ [] := ⟨⟨_, ok_contains T k_Ratio o_Span___contains__ c__law_less F__law_contains b__law_contains, PySem.W.mg_of X Gn a__law_contains, k__law_contains⟩⟩
  have c__law_crossed : Cal ⟨l.prog, w, K, mg, base⟩ _ "_law_crossed" _ _ [] := ⟨⟨_, ok_crossed T k_Ratio kX_Span h__law_equals F__law_crossed b__law_crossed, PySem.W.mg_of X Gn a__law_crossed, k__law_crossed⟩⟩
  have c__law_alone : Cal ⟨l.prog, w, K, mg, base⟩ _ "_law_alone" _ _ [] := ⟨⟨_, ok_alone T o_Ratio___eq__ o_Span___eq__ m_Span_length m_Span_text c__law_less c__law_plus c__law_minus c__law_written c__law_equals c__law_is_span c__law_contains c__law_crossed c__law_two F__law_alone b__law_alone, PySem.W.mg_of X Gn a__law_alone, k__law_alone⟩⟩
  exact ok_law T k_Ratio k_Span s_Span_point c__law_start c__law_digit c__law_ends c__law_second c__law_between c__law_alone c__law_two c__law_contains c__law_is_span F_law
end K06
set_option Elab.async false
set_option linter.all false
/-
{C_Ratio : Addr} {C_Span : Addr} {C_Apart : Addr} {C_Crossed N_e_Crossed : Addr} {nm_Crossed q_Crossed : Str} {bs_Crossed bm_Crossed sn_Crossed : _} {sub_Crossed ab_Crossed col_Crossed dd_Crossed m0_Crossed m1_Crossed m2_Crossed m3_Crossed m5_Crossed : _} {C_CarryError : Addr} {f_Ratio___init__ : Addr} {od_Ratio___init__ an_Ratio___init__ : Option Addr} {sl_Ratio___init__ : Array (Option Value)} {oc_Ratio___init__ kV_Ratio___init__ dc_Ratio___init__ pm_Ratio___init__ cd_Ratio___init__ ct_Ratio___init__ : Value} {T_Ratio___init__ : Addr} {tk_Ratio___init__ : Tok} {oT_Ratio___init__ : Option Addr} {nT_Ratio___init__ : Nat} {sT_Ratio___init__ : Array (Option Value)} {cT_Ratio___init__ : Value} {f_Ratio_compare : Addr} {od_Ratio_compare an_Ratio_compare : Option Addr} {sl_Ratio_compare : Array (Option Value)} {oc_Ratio_compare kV_Ratio_compare dc_Ratio_compare pm_Ratio_compare cd_Ratio_compare ct_Ratio_compare : Value} {f_Ratio_text : Addr} {od_Ratio_text an_Ratio_text : Option Addr} {sl_Ratio_text : Array (Option Value)} {oc_Ratio_text kV_Ratio_text dc_Ratio_text pm_Ratio_text cd_Ratio_text ct_Ratio_text : Value} {f_Ratio___eq__ : Addr} {od_Ratio___eq__ an_Ratio___eq__ : Option Addr} {sl_Ratio___eq__ : Array (Option Value)} {oc_Ratio___eq__ kV_Ratio___eq__ dc_Ratio___eq__ pm_Ratio___eq__ cd_Ratio___eq__ ct_Ratio___eq__ : Value} {f_Ratio___sub__ : Addr} {od_Ratio___sub__ an_Ratio___sub__ : Option Addr} {sl_Ratio___sub__ : Array (Option Value)} {oc_Ratio___sub__ kV_Ratio___sub__ dc_Ratio___sub__ pm_Ratio___sub__ cd_Ratio___sub__ ct_Ratio___sub__ : Value} {f_lesser : Addr} {od_lesser an_lesser : Option Addr} {sl_lesser : Array (Option Value)} {oc_lesser kV_lesser dc_lesser pm_lesser cd_lesser ct_lesser : Value} {f_greater : Addr} {od_greater an_greater : Option Addr} {sl_greater : Array (Option Value)} {oc_greater kV_greater dc_greater pm_greater cd_greater ct_greater : Value} {f_Span___init__ : Addr} {od_Span___init__ an_Span___init__ : Option Addr} {sl_Span___init__ : Array (Option Value)} {oc_Span___init__ kV_Span___init__ dc_Span___init__ pm_Span___init__ cd_Span___init__ ct_Span___init__ : Value} {f_Span___eq__ : Addr} {od_Span___eq__ an_Span___eq__ : Option Addr} {sl_Span___eq__ : Array (Option Value)} {oc_Span___eq__ kV_Span___eq__ dc_Span___eq__ pm_Span___eq__ cd_Span___eq__ ct_Span___eq__ : Value} {f_Span___contains__ : Addr} {od_Span___contains__ an_Span___contains__ : Option Addr} {sl_Span___contains__ : Array (Option Value)} {oc_Span___contains__ kV_Span___contains__ dc_Span___contains__ pm_Span___contains__ cd_Span___contains__ ct_Span___contains__ : Value} {f_Span___and__ : Addr} {od_Span___and__ an_Span___and__ : Option Addr} {sl_Span___and__ : Array (Option Value)} {oc_Span___and__ kV_Span___and__ dc_Span___and__ pm_Span___and__ cd_Span___and__ ct_Span___and__ : Value} {f_Span_at_most : Addr} {od_Span_at_most an_Span_at_most : Option Addr} {sl_Span_at_most : Array (Option Value)} {oc_Span_at_most kV_Span_at_most dc_Span_at_most pm_Span_at_most cd_Span_at_most ct_Span_at_most : Value} {f_Span_length : Addr} {od_Span_length an_Span_length : Option Addr} {sl_Span_length : Array (Option Value)} {oc_Span_length kV_Span_length dc_Span_length pm_Span_length cd_Span_length ct_Span_length : Value} {f_Span_text : Addr} {od_Span_text an_Span_text : Option Addr} {sl_Span_text : Array (Option Value)} {oc_Span_text kV_Span_text dc_Span_text pm_Span_text cd_Span_text ct_Span_text : Value} {f_Span_point : Addr} {od_Span_point an_Span_point : Option Addr} {sl_Span_point : Array (Option Value)} {oc_Span_point kV_Span_point dc_Span_point pm_Span_point cd_Span_point ct_Span_point : Value} {p_Span_point : Addr} {rr_Span_point : List Value} {f__law_start : Addr} {od__law_start an__law_start : Option Addr} {sl__law_start : Array (Option Value)} {oc__law_start kV__law_start dc__law_start pm__law_start cd__law_start ct__law_start : Value} {f__law_digit : Addr} {od__law_digit an__law_digit : Option Addr} {sl__law_digit : Array (Option Value)} {oc__law_digit kV__law_digit dc__law_digit pm__law_digit cd__law_digit ct__law_digit : Value} {f__law_fraction : Addr} {od__law_fraction an__law_fraction : Option Addr} {sl__law_fraction : Array (Option Value)} {oc__law_fraction kV__law_fraction dc__law_fraction pm__law_fraction cd__law_fraction ct__law_fraction : Value} {f__law_less : Addr} {od__law_less an__law_less : Option Addr} {sl__law_less : Array (Option Value)} {oc__law_less kV__law_less dc__law_less pm__law_less cd__law_less ct__law_less : Value} {f__law_plus : Addr} {od__law_plus an__law_plus : Option Addr} {sl__law_plus : Array (Option Value)} {oc__law_plus kV__law_plus dc__law_plus pm__law_plus cd__law_plus ct__law_plus : Value} {f__law_minus : Addr} {od__law_minus an__law_minus : Option Addr} {sl__law_minus : Array (Option Value)} {oc__law_minus kV__law_minus dc__law_minus pm__law_minus cd__law_minus ct__law_minus : Value} {f__law_ends : Addr} {od__law_ends an__law_ends : Option Addr} {sl__law_ends : Array (Option Value)} {oc__law_ends kV__law_ends dc__law_ends pm__law_ends cd__law_ends ct__law_ends : Value} {f__law_between : Addr} {od__law_between an__law_between : Option Addr} {sl__law_between : Array (Option Value)} {oc__law_between kV__law_between dc__law_between pm__law_between cd__law_between ct__law_between : Value} {f__law_second : Addr} {od__law_second an__law_second : Option Addr} {sl__law_second : Array (Option Value)} {oc__law_second kV__law_second dc__law_second pm__law_second cd__law_second ct__law_second : Value} {f__law_lowest : Addr} {od__law_lowest an__law_lowest : Option Addr} {sl__law_lowest : Array (Option Value)} {oc__law_lowest kV__law_lowest dc__law_lowest pm__law_lowest cd__law_lowest ct__law_lowest : Value} {f__law_written : Addr} {od__law_written an__law_written : Option Addr} {sl__law_written : Array (Option Value)} {oc__law_written kV__law_written dc__law_written pm__law_written cd__law_written ct__law_written : Value} {f__law_equals : Addr} {od__law_equals an__law_equals : Option Addr} {sl__law_equals : Array (Option Value)} {oc__law_equals kV__law_equals dc__law_equals pm__law_equals cd__law_equals ct__law_equals : Value} {f__law_is_span : Addr} {od__law_is_span an__law_is_span : Option Addr} {sl__law_is_span : Array (Option Value)} {oc__law_is_span kV__law_is_span dc__law_is_span pm__law_is_span cd__law_is_span ct__law_is_span : Value} {f__law_order : Addr} {od__law_order an__law_order : Option Addr} {sl__law_order : Array (Option Value)} {oc__law_order kV__law_order dc__law_order pm__law_order cd__law_order ct__law_order : Value} {f__law_apart : Addr} {od__law_apart an__law_apart : Option Addr} {sl__law_apart : Array (Option Value)} {oc__law_apart kV__law_apart dc__law_apart pm__law_apart cd__law_apart ct__law_apart : Value} {f__law_common : Addr} {od__law_common an__law_common : Option Addr} {sl__law_common : Array (Option Value)} {oc__law_common kV__law_common dc__law_common pm__law_common cd__law_common ct__law_common : Value} {f__law_same : Addr} {od__law_same an__law_same : Option Addr} {sl__law_same : Array (Option Value)} {oc__law_same kV__law_same dc__law_same pm__law_same cd__law_same ct__law_same : Value} {f__law_two : Addr} {od__law_two an__law_two : Option Addr} {sl__law_two : Array (Option Value)} {oc__law_two kV__law_two dc__law_two pm__law_two cd__law_two ct__law_two : Value} {f__law_contains : Addr} {od__law_contains an__law_contains : Option Addr} {sl__law_contains : Array (Option Value)} {oc__law_contains kV__law_contains dc__law_contains pm__law_contains cd__law_contains ct__law_contains : Value} {f__law_crossed : Addr} {od__law_crossed an__law_crossed : Option Addr} {sl__law_crossed : Array (Option Value)} {oc__law_crossed kV__law_crossed dc__law_crossed pm__law_crossed cd__law_crossed ct__law_crossed : Value} {f__law_alone : Addr} {od__law_alone an__law_alone : Option Addr} {sl__law_alone : Array (Option Value)} {oc__law_alone kV__law_alone dc__law_alone pm__law_alone cd__law_alone ct__law_alone : Value} {f_law : Addr} {od_law an_law : Option Addr} {sl_law : Array (Option Value)} {oc_law kV_law dc_law pm_law cd_law ct_law : Value} {f_Crossed___init__ : Addr} {od_Crossed___init__ an_Crossed___init__ : Option Addr} {sl_Crossed___init__ : Array (Option Value)} {oc_Crossed___init__ kV_Crossed___init__ dc_Crossed___init__ pm_Crossed___init__ cd_Crossed___init__ ct_Crossed___init__ : Value}
    (a_Ratio : PySem.W.nsIn K mainGlobals "Ratio" = some (some (.ref C_Ratio)))
    (pg_Ratio : PySem.W.plainGet K C_Ratio Str.empty = true)
    (hd_Ratio : PySem.W.hasDictIn K C_Ratio = true)
    (po_Ratio : PySem.W.plainOver K C_Ratio = true)
    (sa_Ratio : PySem.W.findIn K (.ref C_Ratio) "__setattr__" = some (some (.builtin "object.__setattr__")))
    (mk_Ratio : PySem.W.makesIn K C_Ratio = true)
    (sf_Ratio : PySem.W.selfFirst K C_Ratio = true)
    (kc_Ratio : PySem.W.keepIn K (.ref C_Ratio) = true)
    (ha_Ratio : PySem.W.findIn K (.ref C_Ratio) "__class__" = some (some (.builtin "object.__class__")))
    (mo_Ratio : PySem.W.mroIn K C_Ratio (.type "object") = some true)
    (is_Ratio : PySem.W.isClsIn K C_Ratio = true)
    (su_Ratio : PySem.W.subIn K (.ref C_Ratio) (.ref C_Ratio) = some true)
    (ty_Ratio : PySem.W.typeIn K (.ref C_Ratio) = some (.type "type"))
    (no_top_Ratio : PySem.W.findIn K (.ref C_Ratio) "top" = some none)
    (no_bottom_Ratio : PySem.W.findIn K (.ref C_Ratio) "bottom" = some none)
    (a_Span : PySem.W.nsIn K mainGlobals "Span" = some (some (.ref C_Span)))
    (pg_Span : PySem.W.plainGet K C_Span Str.empty = true)
    (hd_Span : PySem.W.hasDictIn K C_Span = true)
    (po_Span : PySem.W.plainOver K C_Span = true)
    (sa_Span : PySem.W.findIn K (.ref C_Span) "__setattr__" = some (some (.builtin "object.__setattr__")))
    (mk_Span : PySem.W.makesIn K C_Span = true)
    (sf_Span : PySem.W.selfFirst K C_Span = true)
    (kc_Span : PySem.W.keepIn K (.ref C_Span) = true)
    (ha_Span : PySem.W.findIn K (.ref C_Span) "__class__" = some (some (.builtin "object.__class__")))
    (mo_Span : PySem.W.mroIn K C_Span (.type "object") = some true)
    (is_Span : PySem.W.isClsIn K C_Span = true)
    (su_Span : PySem.W.subIn K (.ref C_Span) (.ref C_Span) = some true)
    (ty_Span : PySem.W.typeIn K (.ref C_Span) = some (.type "type"))
    (no_low_Span : PySem.W.findIn K (.ref C_Span) "low" = some none)
    (no_high_Span : PySem.W.findIn K (.ref C_Span) "high" = some none)
    (a_Apart : PySem.W.nsIn K mainGlobals "Apart" = some (some (.ref C_Apart)))
    (xi_Apart : PySem.W.excIn K C_Apart [.type "ValueError", .type "Exception", .type "BaseException", .type "object"] "ValueError.__new__" = true)
    (ex_Apart : PySem.W.subIn K (.ref C_Apart) (.type "BaseException") = some true)
    (ty_Apart : PySem.W.typeIn K (.ref C_Apart) = some (.type "type"))
    (kc_Apart : PySem.W.keepIn K (.ref C_Apart) = true)
    (ga_Apart : PySem.W.findIn K (.ref C_Apart) "__getattribute__" = some (some (.builtin "BaseException.__getattribute__")))
    (gg_Apart : PySem.W.findIn K (.ref C_Apart) "__getattr__" = some none)
    (hd_Apart : PySem.W.hasDictIn K C_Apart = true)
    (ha_Apart : PySem.W.findIn K (.ref C_Apart) "__class__" = some (some (.builtin "object.__class__")))
    (mo_Apart : PySem.W.mroIn K C_Apart (.type "object") = some true)
    (is_Apart : PySem.W.isClsIn K C_Apart = true)
    (su_Apart : PySem.W.subIn K (.ref C_Apart) (.ref C_Apart) = some true)
    (a_Crossed : PySem.W.nsIn K mainGlobals "Crossed" = some (some (.ref C_Crossed)))
    (l_Crossed : K.lookup C_Crossed = some (excClassObj nm_Crossed q_Crossed C_Crossed N_e_Crossed bs_Crossed bm_Crossed true sn_Crossed sub_Crossed ab_Crossed col_Crossed dd_Crossed m0_Crossed m1_Crossed m2_Crossed m3_Crossed m5_Crossed "ValueError.__new__"))
    (rf_Crossed : PySem.HandSPX.refsVE bm_Crossed = true)
    (sa_Crossed : PySem.W.findIn K (.ref C_Crossed) "__setattr__" = some (some (.builtin "object.__setattr__")))
    (ex_Crossed : PySem.W.subIn K (.ref C_Crossed) (.type "BaseException") = some true)
    (ty_Crossed : PySem.W.typeIn K (.ref C_Crossed) = some (.type "type"))
    (kc_Crossed : PySem.W.keepIn K (.ref C_Crossed) = true)
    (ga_Crossed : PySem.W.findIn K (.ref C_Crossed) "__getattribute__" = some (some (.builtin "BaseException.__getattribute__")))
    (gg_Crossed : PySem.W.findIn K (.ref C_Crossed) "__getattr__" = some none)
    (hd_Crossed : PySem.W.hasDictIn K C_Crossed = true)
    (ha_Crossed : PySem.W.findIn K (.ref C_Crossed) "__class__" = some (some (.builtin "object.__class__")))
    (mo_Crossed : PySem.W.mroIn K C_Crossed (.type "object") = some true)
    (is_Crossed : PySem.W.isClsIn K C_Crossed = true)
    (su_Crossed : PySem.W.subIn K (.ref C_Crossed) (.ref C_Crossed) = some true)
    (no_low_Crossed : PySem.W.findIn K (.ref C_Crossed) "low" = some none)
    (no_high_Crossed : PySem.W.findIn K (.ref C_Crossed) "high" = some none)
    (a_CarryError : PySem.W.nsIn K mainGlobals "CarryError" = some (some (.ref C_CarryError)))
    (ex_CarryError : PySem.W.subIn K (.ref C_CarryError) (.type "BaseException") = some true)
    (ty_CarryError : PySem.W.typeIn K (.ref C_CarryError) = some (.type "type"))
    (hd_CarryError : PySem.W.hasDictIn K C_CarryError = true)
    (is_CarryError : PySem.W.isClsIn K C_CarryError = true)
    (su_Ratio_Span : PySem.W.subIn K (.ref C_Ratio) (.ref C_Span) = some false)
    (su_Span_Ratio : PySem.W.subIn K (.ref C_Span) (.ref C_Ratio) = some false)
    (su_Apart_Crossed : PySem.W.subIn K (.ref C_Apart) (.ref C_Crossed) = some false)
    (su_Crossed_Apart : PySem.W.subIn K (.ref C_Crossed) (.ref C_Apart) = some false)
    (su_Apart_CarryError : PySem.W.subIn K (.ref C_Apart) (.ref C_CarryError) = some true)
    (su_Crossed_CarryError : PySem.W.subIn K (.ref C_Crossed) (.ref C_CarryError) = some true)
    (sT_Apart_ValueError : PySem.W.subIn K (.ref C_Apart) (.type "ValueError") = some true)
    (sT_Crossed_ValueError : PySem.W.subIn K (.ref C_Crossed) (.type "ValueError") = some true)
    (kt_NoneType_Ratio : PySem.W.subIn K (.type "NoneType") (.ref C_Ratio) = some false)
    (sb_NoneType_Ratio : PySem.W.subIn K (.ref C_Ratio) (.type "NoneType") = some false)
    (nf_NoneType_Ratio : PySem.W.notFirst K C_Ratio (.type "NoneType") = true)
    (kt_int_Ratio : PySem.W.subIn K (.type "int") (.ref C_Ratio) = some false)
    (sb_int_Ratio : PySem.W.subIn K (.ref C_Ratio) (.type "int") = some false)
    (nf_int_Ratio : PySem.W.notFirst K C_Ratio (.type "int") = true)
    (kt_str_Ratio : PySem.W.subIn K (.type "str") (.ref C_Ratio) = some false)
    (sb_str_Ratio : PySem.W.subIn K (.ref C_Ratio) (.type "str") = some false)
    (nf_str_Ratio : PySem.W.notFirst K C_Ratio (.type "str") = true)
    (kt_list_Ratio : PySem.W.subIn K (.type "list") (.ref C_Ratio) = some false)
    (sb_list_Ratio : PySem.W.subIn K (.ref C_Ratio) (.type "list") = some false)
    (nf_list_Ratio : PySem.W.notFirst K C_Ratio (.type "list") = true)
    (kt_tuple_Ratio : PySem.W.subIn K (.type "tuple") (.ref C_Ratio) = some false)
    (sb_tuple_Ratio : PySem.W.subIn K (.ref C_Ratio) (.type "tuple") = some false)
    (nf_tuple_Ratio : PySem.W.notFirst K C_Ratio (.type "tuple") = true)
    (kt_NoneType_Span : PySem.W.subIn K (.type "NoneType") (.ref C_Span) = some false)
    (sb_NoneType_Span : PySem.W.subIn K (.ref C_Span) (.type "NoneType") = some false)
    (nf_NoneType_Span : PySem.W.notFirst K C_Span (.type "NoneType") = true)
    (kt_int_Span : PySem.W.subIn K (.type "int") (.ref C_Span) = some false)
    (sb_int_Span : PySem.W.subIn K (.ref C_Span) (.type "int") = some false)
    (nf_int_Span : PySem.W.notFirst K C_Span (.type "int") = true)
    (kt_str_Span : PySem.W.subIn K (.type "str") (.ref C_Span) = some false)
    (sb_str_Span : PySem.W.subIn K (.ref C_Span) (.type "str") = some false)
    (nf_str_Span : PySem.W.notFirst K C_Span (.type "str") = true)
    (kt_list_Span : PySem.W.subIn K (.type "list") (.ref C_Span) = some false)
    (sb_list_Span : PySem.W.subIn K (.ref C_Span) (.type "list") = some false)
    (nf_list_Span : PySem.W.notFirst K C_Span (.type "list") = true)
    (kt_tuple_Span : PySem.W.subIn K (.type "tuple") (.ref C_Span) = some false)
    (sb_tuple_Span : PySem.W.subIn K (.ref C_Span) (.type "tuple") = some false)
    (nf_tuple_Span : PySem.W.notFirst K C_Span (.type "tuple") = true)
    (gs : PySem.W.specialIn K (.builtin "object.__class__") "__get__" = some (some (.builtin "getset_descriptor.__get__")))
    (gt : PySem.W.takesIn K (.builtin "object.__class__") = some true)
    (a_Ratio___init__ : PySem.W.findIn K (.ref C_Ratio) "__init__" = some (some (.ref f_Ratio___init__)))
    (i_Ratio___init__ : PySem.W.isFn K (.ref f_Ratio___init__) = true)
    (l_Ratio___init__ : K.lookup f_Ratio___init__ = some ⟨oc_Ratio___init__, od_Ratio___init__, .func (PySem.W.fnOf "__init__" "Ratio.__init__" (defArgs s_Ratio___init__) (defBody s_Ratio___init__) (defScope s_Ratio___init__) (.ref T_Ratio___init__) kV_Ratio___init__ dc_Ratio___init__ pm_Ratio___init__ an_Ratio___init__ cd_Ratio___init__ ct_Ratio___init__), sl_Ratio___init__⟩)
    (lT_Ratio___init__ : K.lookup T_Ratio___init__ = some ⟨cT_Ratio___init__, oT_Ratio___init__, .seq [Value.int 1 tk_Ratio___init__].toArray nT_Ratio___init__, sT_Ratio___init__⟩)
    (c_Ratio___init__ : PySem.W.codeIn K cd_Ratio___init__ "Ratio.__init__" = true)
    (k_Ratio___init__ : PySem.W.keepIn K (.ref f_Ratio___init__) = true)
    (a_Ratio_compare : PySem.W.findIn K (.ref C_Ratio) "compare" = some (some (.ref f_Ratio_compare)))
    (i_Ratio_compare : PySem.W.isFn K (.ref f_Ratio_compare) = true)
    (l_Ratio_compare : K.lookup f_Ratio_compare = some ⟨oc_Ratio_compare, od_Ratio_compare, .func (PySem.W.fnOf "compare" "Ratio.compare" (defArgs s_Ratio_compare) (defBody s_Ratio_compare) (defScope s_Ratio_compare) .none kV_Ratio_compare dc_Ratio_compare pm_Ratio_compare an_Ratio_compare cd_Ratio_compare ct_Ratio_compare), sl_Ratio_compare⟩)
    (c_Ratio_compare : PySem.W.codeIn K cd_Ratio_compare "Ratio.compare" = true)
    (k_Ratio_compare : PySem.W.keepIn K (.ref f_Ratio_compare) = true)
    (a_Ratio_text : PySem.W.findIn K (.ref C_Ratio) "text" = some (some (.ref f_Ratio_text)))
    (i_Ratio_text : PySem.W.isFn K (.ref f_Ratio_text) = true)
    (l_Ratio_text : K.lookup f_Ratio_text = some ⟨oc_Ratio_text, od_Ratio_text, .func (PySem.W.fnOf "text" "Ratio.text" (defArgs s_Ratio_text) (defBody s_Ratio_text) (defScope s_Ratio_text) .none kV_Ratio_text dc_Ratio_text pm_Ratio_text an_Ratio_text cd_Ratio_text ct_Ratio_text), sl_Ratio_text⟩)
    (c_Ratio_text : PySem.W.codeIn K cd_Ratio_text "Ratio.text" = true)
    (k_Ratio_text : PySem.W.keepIn K (.ref f_Ratio_text) = true)
    (a_Ratio___eq__ : PySem.W.findIn K (.ref C_Ratio) "__eq__" = some (some (.ref f_Ratio___eq__)))
    (i_Ratio___eq__ : PySem.W.isFn K (.ref f_Ratio___eq__) = true)
    (l_Ratio___eq__ : K.lookup f_Ratio___eq__ = some ⟨oc_Ratio___eq__, od_Ratio___eq__, .func (PySem.W.fnOf "__eq__" "Ratio.__eq__" (defArgs s_Ratio___eq__) (defBody s_Ratio___eq__) (defScope s_Ratio___eq__) .none kV_Ratio___eq__ dc_Ratio___eq__ pm_Ratio___eq__ an_Ratio___eq__ cd_Ratio___eq__ ct_Ratio___eq__), sl_Ratio___eq__⟩)
    (c_Ratio___eq__ : PySem.W.codeIn K cd_Ratio___eq__ "Ratio.__eq__" = true)
    (k_Ratio___eq__ : PySem.W.keepIn K (.ref f_Ratio___eq__) = true)
    (a_Ratio___sub__ : PySem.W.findIn K (.ref C_Ratio) "__sub__" = some (some (.ref f_Ratio___sub__)))
    (i_Ratio___sub__ : PySem.W.isFn K (.ref f_Ratio___sub__) = true)
    (l_Ratio___sub__ : K.lookup f_Ratio___sub__ = some ⟨oc_Ratio___sub__, od_Ratio___sub__, .func (PySem.W.fnOf "__sub__" "Ratio.__sub__" (defArgs s_Ratio___sub__) (defBody s_Ratio___sub__) (defScope s_Ratio___sub__) .none kV_Ratio___sub__ dc_Ratio___sub__ pm_Ratio___sub__ an_Ratio___sub__ cd_Ratio___sub__ ct_Ratio___sub__), sl_Ratio___sub__⟩)
    (c_Ratio___sub__ : PySem.W.codeIn K cd_Ratio___sub__ "Ratio.__sub__" = true)
    (k_Ratio___sub__ : PySem.W.keepIn K (.ref f_Ratio___sub__) = true)
    (a_lesser : PySem.W.nsIn K mainGlobals "lesser" = some (some (.ref f_lesser)))
    (l_lesser : K.lookup f_lesser = some ⟨oc_lesser, od_lesser, .func (PySem.W.fnOf "lesser" "lesser" (defArgs s_lesser) (defBody s_lesser) (defScope s_lesser) .none kV_lesser dc_lesser pm_lesser an_lesser cd_lesser ct_lesser), sl_lesser⟩)
    (c_lesser : PySem.W.codeIn K cd_lesser "lesser" = true)
    (k_lesser : PySem.W.keepIn K (.ref f_lesser) = true)
    (a_greater : PySem.W.nsIn K mainGlobals "greater" = some (some (.ref f_greater)))
    (l_greater : K.lookup f_greater = some ⟨oc_greater, od_greater, .func (PySem.W.fnOf "greater" "greater" (defArgs s_greater) (defBody s_greater) (defScope s_greater) .none kV_greater dc_greater pm_greater an_greater cd_greater ct_greater), sl_greater⟩)
    (c_greater : PySem.W.codeIn K cd_greater "greater" = true)
    (k_greater : PySem.W.keepIn K (.ref f_greater) = true)
    (a_Span___init__ : PySem.W.findIn K (.ref C_Span) "__init__" = some (some (.ref f_Span___init__)))
    (i_Span___init__ : PySem.W.isFn K (.ref f_Span___init__) = true)
    (l_Span___init__ : K.lookup f_Span___init__ = some ⟨oc_Span___init__, od_Span___init__, .func (PySem.W.fnOf "__init__" "Span.__init__" (defArgs s_Span___init__) (defBody s_Span___init__) (defScope s_Span___init__) .none kV_Span___init__ dc_Span___init__ pm_Span___init__ an_Span___init__ cd_Span___init__ ct_Span___init__), sl_Span___init__⟩)
    (c_Span___init__ : PySem.W.codeIn K cd_Span___init__ "Span.__init__" = true)
    (k_Span___init__ : PySem.W.keepIn K (.ref f_Span___init__) = true)
    (a_Span___eq__ : PySem.W.findIn K (.ref C_Span) "__eq__" = some (some (.ref f_Span___eq__)))
    (i_Span___eq__ : PySem.W.isFn K (.ref f_Span___eq__) = true)
    (l_Span___eq__ : K.lookup f_Span___eq__ = some ⟨oc_Span___eq__, od_Span___eq__, .func (PySem.W.fnOf "__eq__" "Span.__eq__" (defArgs s_Span___eq__) (defBody s_Span___eq__) (defScope s_Span___eq__) .none kV_Span___eq__ dc_Span___eq__ pm_Span___eq__ an_Span___eq__ cd_Span___eq__ ct_Span___eq__), sl_Span___eq__⟩)
    (c_Span___eq__ : PySem.W.codeIn K cd_Span___eq__ "Span.__eq__" = true)
    (k_Span___eq__ : PySem.W.keepIn K (.ref f_Span___eq__) = true)
    (a_Span___contains__ : PySem.W.findIn K (.ref C_Span) "__contains__" = some (some (.ref f_Span___contains__)))
    (i_Span___contains__ : PySem.W.isFn K (.ref f_Span___contains__) = true)
    (l_Span___contains__ : K.lookup f_Span___contains__ = some ⟨oc_Span___contains__, od_Span___contains__, .func (PySem.W.fnOf "__contains__" "Span.__contains__" (defArgs s_Span___contains__) (defBody s_Span___contains__) (defScope s_Span___contains__) .none kV_Span___contains__ dc_Span___contains__ pm_Span___contains__ an_Span___contains__ cd_Span___contains__ ct_Span___contains__), sl_Span___contains__⟩)
    (c_Span___contains__ : PySem.W.codeIn K cd_Span___contains__ "Span.__contains__" = true)
    (k_Span___contains__ : PySem.W.keepIn K (.ref f_Span___contains__) = true)
    (a_Span___and__ : PySem.W.findIn K (.ref C_Span) "__and__" = some (some (.ref f_Span___and__)))
    (i_Span___and__ : PySem.W.isFn K (.ref f_Span___and__) = true)
    (l_Span___and__ : K.lookup f_Span___and__ = some ⟨oc_Span___and__, od_Span___and__, .func (PySem.W.fnOf "__and__" "Span.__and__" (defArgs s_Span___and__) (defBody s_Span___and__) (defScope s_Span___and__) .none kV_Span___and__ dc_Span___and__ pm_Span___and__ an_Span___and__ cd_Span___and__ ct_Span___and__), sl_Span___and__⟩)
    (c_Span___and__ : PySem.W.codeIn K cd_Span___and__ "Span.__and__" = true)
    (k_Span___and__ : PySem.W.keepIn K (.ref f_Span___and__) = true)
    (a_Span_at_most : PySem.W.findIn K (.ref C_Span) "at_most" = some (some (.ref f_Span_at_most)))
    (i_Span_at_most : PySem.W.isFn K (.ref f_Span_at_most) = true)
    (l_Span_at_most : K.lookup f_Span_at_most = some ⟨oc_Span_at_most, od_Span_at_most, .func (PySem.W.fnOf "at_most" "Span.at_most" (defArgs s_Span_at_most) (defBody s_Span_at_most) (defScope s_Span_at_most) .none kV_Span_at_most dc_Span_at_most pm_Span_at_most an_Span_at_most cd_Span_at_most ct_Span_at_most), sl_Span_at_most⟩)
    (c_Span_at_most : PySem.W.codeIn K cd_Span_at_most "Span.at_most" = true)
    (k_Span_at_most : PySem.W.keepIn K (.ref f_Span_at_most) = true)
    (a_Span_length : PySem.W.findIn K (.ref C_Span) "length" = some (some (.ref f_Span_length)))
    (i_Span_length : PySem.W.isFn K (.ref f_Span_length) = true)
    (l_Span_length : K.lookup f_Span_length = some ⟨oc_Span_length, od_Span_length, .func (PySem.W.fnOf "length" "Span.length" (defArgs s_Span_length) (defBody s_Span_length) (defScope s_Span_length) .none kV_Span_length dc_Span_length pm_Span_length an_Span_length cd_Span_length ct_Span_length), sl_Span_length⟩)
    (c_Span_length : PySem.W.codeIn K cd_Span_length "Span.length" = true)
    (k_Span_length : PySem.W.keepIn K (.ref f_Span_length) = true)
    (a_Span_text : PySem.W.findIn K (.ref C_Span) "text" = some (some (.ref f_Span_text)))
    (i_Span_text : PySem.W.isFn K (.ref f_Span_text) = true)
    (l_Span_text : K.lookup f_Span_text = some ⟨oc_Span_text, od_Span_text, .func (PySem.W.fnOf "text" "Span.text" (defArgs s_Span_text) (defBody s_Span_text) (defScope s_Span_text) .none kV_Span_text dc_Span_text pm_Span_text an_Span_text cd_Span_text ct_Span_text), sl_Span_text⟩)
    (c_Span_text : PySem.W.codeIn K cd_Span_text "Span.text" = true)
    (k_Span_text : PySem.W.keepIn K (.ref f_Span_text) = true)
    (a_Span_point : PySem.W.findCls K (.ref C_Span) (.type "type") "point" = some (.get (.builtin "staticmethod.__get__") (.ref p_Span_point) .none (.ref C_Span)))
    (r_Span_point : PySem.W.recIn K p_Span_point "staticmethod" = some (.ref f_Span_point :: rr_Span_point))
    (rd_Span_point : PySem.W.readsIn K C_Span (.type "type") = true)
    (ga_Span_point : PySem.W.specialIn K (.ref C_Span) "__getattribute__" = some (some (.builtin "type.__getattribute__")))
    (l_Span_point : K.lookup f_Span_point = some ⟨oc_Span_point, od_Span_point, .func (PySem.W.fnOf "point" "Span.point" (defArgs s_Span_point) (defBody s_Span_point) (defScope s_Span_point) .none kV_Span_point dc_Span_point pm_Span_point an_Span_point cd_Span_point ct_Span_point), sl_Span_point⟩)
    (c_Span_point : PySem.W.codeIn K cd_Span_point "Span.point" = true)
    (k_Span_point : PySem.W.keepIn K (.ref f_Span_point) = true)
    (a__law_start : PySem.W.nsIn K mainGlobals "_law_start" = some (some (.ref f__law_start)))
    (l__law_start : K.lookup f__law_start = some ⟨oc__law_start, od__law_start, .func (PySem.W.fnOf "_law_start" "_law_start" (defArgs s__law_start) (defBody s__law_start) (defScope s__law_start) .none kV__law_start dc__law_start pm__law_start an__law_start cd__law_start ct__law_start), sl__law_start⟩)
    (c__law_start : PySem.W.codeIn K cd__law_start "_law_start" = true)
    (k__law_start : PySem.W.keepIn K (.ref f__law_start) = true)
    (a__law_digit : PySem.W.nsIn K mainGlobals "_law_digit" = some (some (.ref f__law_digit)))
    (l__law_digit : K.lookup f__law_digit = some ⟨oc__law_digit, od__law_digit, .func (PySem.W.fnOf "_law_digit" "_law_digit" (defArgs s__law_digit) (defBody s__law_digit) (defScope s__law_digit) .none kV__law_digit dc__law_digit pm__law_digit an__law_digit cd__law_digit ct__law_digit), sl__law_digit⟩)
    (c__law_digit : PySem.W.codeIn K cd__law_digit "_law_digit" = true)
    (k__law_digit : PySem.W.keepIn K (.ref f__law_digit) = true)
    (a__law_fraction : PySem.W.nsIn K mainGlobals "_law_fraction" = some (some (.ref f__law_fraction)))
    (l__law_fraction : K.lookup f__law_fraction = some ⟨oc__law_fraction, od__law_fraction, .func (PySem.W.fnOf "_law_fraction" "_law_fraction" (defArgs s__law_fraction) (defBody s__law_fraction) (defScope s__law_fraction) .none kV__law_fraction dc__law_fraction pm__law_fraction an__law_fraction cd__law_fraction ct__law_fraction), sl__law_fraction⟩)
    (c__law_fraction : PySem.W.codeIn K cd__law_fraction "_law_fraction" = true)
    (k__law_fraction : PySem.W.keepIn K (.ref f__law_fraction) = true)
    (a__law_less : PySem.W.nsIn K mainGlobals "_law_less" = some (some (.ref f__law_less)))
    (l__law_less : K.lookup f__law_less = some ⟨oc__law_less, od__law_less, .func (PySem.W.fnOf "_law_less" "_law_less" (defArgs s__law_less) (defBody s__law_less) (defScope s__law_less) .none kV__law_less dc__law_less pm__law_less an__law_less cd__law_less ct__law_less), sl__law_less⟩)
    (c__law_less : PySem.W.codeIn K cd__law_less "_law_less" = true)
    (k__law_less : PySem.W.keepIn K (.ref f__law_less) = true)
    (a__law_plus : PySem.W.nsIn K mainGlobals "_law_plus" = some (some (.ref f__law_plus)))
    (l__law_plus : K.lookup f__law_plus = some ⟨oc__law_plus, od__law_plus, .func (PySem.W.fnOf "_law_plus" "_law_plus" (defArgs s__law_plus) (defBody s__law_plus) (defScope s__law_plus) .none kV__law_plus dc__law_plus pm__law_plus an__law_plus cd__law_plus ct__law_plus), sl__law_plus⟩)
    (c__law_plus : PySem.W.codeIn K cd__law_plus "_law_plus" = true)
    (k__law_plus : PySem.W.keepIn K (.ref f__law_plus) = true)
    (a__law_minus : PySem.W.nsIn K mainGlobals "_law_minus" = some (some (.ref f__law_minus)))
    (l__law_minus : K.lookup f__law_minus = some ⟨oc__law_minus, od__law_minus, .func (PySem.W.fnOf "_law_minus" "_law_minus" (defArgs s__law_minus) (defBody s__law_minus) (defScope s__law_minus) .none kV__law_minus dc__law_minus pm__law_minus an__law_minus cd__law_minus ct__law_minus), sl__law_minus⟩)
    (c__law_minus : PySem.W.codeIn K cd__law_minus "_law_minus" = true)
    (k__law_minus : PySem.W.keepIn K (.ref f__law_minus) = true)
    (a__law_ends : PySem.W.nsIn K mainGlobals "_law_ends" = some (some (.ref f__law_ends)))
    (l__law_ends : K.lookup f__law_ends = some ⟨oc__law_ends, od__law_ends, .func (PySem.W.fnOf "_law_ends" "_law_ends" (defArgs s__law_ends) (defBody s__law_ends) (defScope s__law_ends) .none kV__law_ends dc__law_ends pm__law_ends an__law_ends cd__law_ends ct__law_ends), sl__law_ends⟩)
    (c__law_ends : PySem.W.codeIn K cd__law_ends "_law_ends" = true)
    (k__law_ends : PySem.W.keepIn K (.ref f__law_ends) = true)
    (a__law_between : PySem.W.nsIn K mainGlobals "_law_between" = some (some (.ref f__law_between)))
    (l__law_between : K.lookup f__law_between = some ⟨oc__law_between, od__law_between, .func (PySem.W.fnOf "_law_between" "_law_between" (defArgs s__law_between) (defBody s__law_between) (defScope s__law_between) .none kV__law_between dc__law_between pm__law_between an__law_between cd__law_between ct__law_between), sl__law_between⟩)
    (c__law_between : PySem.W.codeIn K cd__law_between "_law_between" = true)
    (k__law_between : PySem.W.keepIn K (.ref f__law_between) = true)
    (a__law_second : PySem.W.nsIn K mainGlobals "_law_second" = some (some (.ref f__law_second)))
    (l__law_second : K.lookup f__law_second = some ⟨oc__law_second, od__law_second, .func (PySem.W.fnOf "_law_second" "_law_second" (defArgs s__law_second) (defBody s__law_second) (defScope s__law_second) .none kV__law_second dc__law_second pm__law_second an__law_second cd__law_second ct__law_second), sl__law_second⟩)
    (c__law_second : PySem.W.codeIn K cd__law_second "_law_second" = true)
    (k__law_second : PySem.W.keepIn K (.ref f__law_second) = true)
    (a__law_lowest : PySem.W.nsIn K mainGlobals "_law_lowest" = some (some (.ref f__law_lowest)))
    (l__law_lowest : K.lookup f__law_lowest = some ⟨oc__law_lowest, od__law_lowest, .func (PySem.W.fnOf "_law_lowest" "_law_lowest" (defArgs s__law_lowest) (defBody s__law_lowest) (defScope s__law_lowest) .none kV__law_lowest dc__law_lowest pm__law_lowest an__law_lowest cd__law_lowest ct__law_lowest), sl__law_lowest⟩)
    (c__law_lowest : PySem.W.codeIn K cd__law_lowest "_law_lowest" = true)
    (k__law_lowest : PySem.W.keepIn K (.ref f__law_lowest) = true)
    (a__law_written : PySem.W.nsIn K mainGlobals "_law_written" = some (some (.ref f__law_written)))
    (l__law_written : K.lookup f__law_written = some ⟨oc__law_written, od__law_written, .func (PySem.W.fnOf "_law_written" "_law_written" (defArgs s__law_written) (defBody s__law_written) (defScope s__law_written) .none kV__law_written dc__law_written pm__law_written an__law_written cd__law_written ct__law_written), sl__law_written⟩)
    (c__law_written : PySem.W.codeIn K cd__law_written "_law_written" = true)
    (k__law_written : PySem.W.keepIn K (.ref f__law_written) = true)
    (a__law_equals : PySem.W.nsIn K mainGlobals "_law_equals" = some (some (.ref f__law_equals)))
    (l__law_equals : K.lookup f__law_equals = some ⟨oc__law_equals, od__law_equals, .func (PySem.W.fnOf "_law_equals" "_law_equals" (defArgs s__law_equals) (defBody s__law_equals) (defScope s__law_equals) .none kV__law_equals dc__law_equals pm__law_equals an__law_equals cd__law_equals ct__law_equals), sl__law_equals⟩)
    (c__law_equals : PySem.W.codeIn K cd__law_equals "_law_equals" = true)
    (k__law_equals : PySem.W.keepIn K (.ref f__law_equals) = true)
    (a__law_is_span : PySem.W.nsIn K mainGlobals "_law_is_span" = some (some (.ref f__law_is_span)))
    (l__law_is_span : K.lookup f__law_is_span = some ⟨oc__law_is_span, od__law_is_span, .func (PySem.W.fnOf "_law_is_span" "_law_is_span" (defArgs s__law_is_span) (defBody s__law_is_span) (defScope s__law_is_span) .none kV__law_is_span dc__law_is_span pm__law_is_span an__law_is_span cd__law_is_span ct__law_is_span), sl__law_is_span⟩)
    (c__law_is_span : PySem.W.codeIn K cd__law_is_span "_law_is_span" = true)
    (k__law_is_span : PySem.W.keepIn K (.ref f__law_is_span) = true)
    (a__law_order : PySem.W.nsIn K mainGlobals "_law_order" = some (some (.ref f__law_order)))
    (l__law_order : K.lookup f__law_order = some ⟨oc__law_order, od__law_order, .func (PySem.W.fnOf "_law_order" "_law_order" (defArgs s__law_order) (defBody s__law_order) (defScope s__law_order) .none kV__law_order dc__law_order pm__law_order an__law_order cd__law_order ct__law_order), sl__law_order⟩)
    (c__law_order : PySem.W.codeIn K cd__law_order "_law_order" = true)
    (k__law_order : PySem.W.keepIn K (.ref f__law_order) = true)
    (a__law_apart : PySem.W.nsIn K mainGlobals "_law_apart" = some (some (.ref f__law_apart)))
    (l__law_apart : K.lookup f__law_apart = some ⟨oc__law_apart, od__law_apart, .func (PySem.W.fnOf "_law_apart" "_law_apart" (defArgs s__law_apart) (defBody s__law_apart) (defScope s__law_apart) .none kV__law_apart dc__law_apart pm__law_apart an__law_apart cd__law_apart ct__law_apart), sl__law_apart⟩)
    (c__law_apart : PySem.W.codeIn K cd__law_apart "_law_apart" = true)
    (k__law_apart : PySem.W.keepIn K (.ref f__law_apart) = true)
    (a__law_common : PySem.W.nsIn K mainGlobals "_law_common" = some (some (.ref f__law_common)))
    (l__law_common : K.lookup f__law_common = some ⟨oc__law_common, od__law_common, .func (PySem.W.fnOf "_law_common" "_law_common" (defArgs s__law_common) (defBody s__law_common) (defScope s__law_common) .none kV__law_common dc__law_common pm__law_common an__law_common cd__law_common ct__law_common), sl__law_common⟩)
    (c__law_common : PySem.W.codeIn K cd__law_common "_law_common" = true)
    (k__law_common : PySem.W.keepIn K (.ref f__law_common) = true)
    (a__law_same : PySem.W.nsIn K mainGlobals "_law_same" = some (some (.ref f__law_same)))
    (l__law_same : K.lookup f__law_same = some ⟨oc__law_same, od__law_same, .func (PySem.W.fnOf "_law_same" "_law_same" (defArgs s__law_same) (defBody s__law_same) (defScope s__law_same) .none kV__law_same dc__law_same pm__law_same an__law_same cd__law_same ct__law_same), sl__law_same⟩)
    (c__law_same : PySem.W.codeIn K cd__law_same "_law_same" = true)
    (k__law_same : PySem.W.keepIn K (.ref f__law_same) = true)
    (a__law_two : PySem.W.nsIn K mainGlobals "_law_two" = some (some (.ref f__law_two)))
    (l__law_two : K.lookup f__law_two = some ⟨oc__law_two, od__law_two, .func (PySem.W.fnOf "_law_two" "_law_two" (defArgs s__law_two) (defBody s__law_two) (defScope s__law_two) .none kV__law_two dc__law_two pm__law_two an__law_two cd__law_two ct__law_two), sl__law_two⟩)
    (c__law_two : PySem.W.codeIn K cd__law_two "_law_two" = true)
    (k__law_two : PySem.W.keepIn K (.ref f__law_two) = true)
    (a__law_contains : PySem.W.nsIn K mainGlobals "_law_contains" = some (some (.ref f__law_contains)))
    (l__law_contains : K.lookup f__law_contains = some ⟨oc__law_contains, od__law_contains, .func (PySem.W.fnOf "_law_contains" "_law_contains" (defArgs s__law_contains) (defBody s__law_contains) (defScope s__law_contains) .none kV__law_contains dc__law_contains pm__law_contains an__law_contains cd__law_contains ct__law_contains), sl__law_contains⟩)
    (c__law_contains : PySem.W.codeIn K cd__law_contains "_law_contains" = true)
    (k__law_contains : PySem.W.keepIn K (.ref f__law_contains) = true)
    (a__law_crossed : PySem.W.nsIn K mainGlobals "_law_crossed" = some (some (.ref f__law_crossed)))
    (l__law_crossed : K.lookup f__law_crossed = some ⟨oc__law_crossed, od__law_crossed, .func (PySem.W.fnOf "_law_crossed" "_law_crossed" (defArgs s__law_crossed) (defBody s__law_crossed) (defScope s__law_crossed) .none kV__law_crossed dc__law_crossed pm__law_crossed an__law_crossed cd__law_crossed ct__law_crossed), sl__law_crossed⟩)
    (c__law_crossed : PySem.W.codeIn K cd__law_crossed "_law_crossed" = true)
    (k__law_crossed : PySem.W.keepIn K (.ref f__law_crossed) = true)
    (a__law_alone : PySem.W.nsIn K mainGlobals "_law_alone" = some (some (.ref f__law_alone)))
    (l__law_alone : K.lookup f__law_alone = some ⟨oc__law_alone, od__law_alone, .func (PySem.W.fnOf "_law_alone" "_law_alone" (defArgs s__law_alone) (defBody s__law_alone) (defScope s__law_alone) .none kV__law_alone dc__law_alone pm__law_alone an__law_alone cd__law_alone ct__law_alone), sl__law_alone⟩)
    (c__law_alone : PySem.W.codeIn K cd__law_alone "_law_alone" = true)
    (k__law_alone : PySem.W.keepIn K (.ref f__law_alone) = true)
    (a_law : PySem.W.nsIn K mainGlobals "law" = some (some (.ref f_law)))
    (l_law : K.lookup f_law = some ⟨oc_law, od_law, .func (PySem.W.fnOf "law" "law" (defArgs s_law) (defBody s_law) (defScope s_law) .none kV_law dc_law pm_law an_law cd_law ct_law), sl_law⟩)
    (c_law : PySem.W.codeIn K cd_law "law" = true)
    (k_law : PySem.W.keepIn K (.ref f_law) = true)
    (a_Crossed___init__ : PySem.W.findIn K (.ref C_Crossed) "__init__" = some (some (.ref f_Crossed___init__)))
    (i_Crossed___init__ : PySem.W.typeIn K (.ref f_Crossed___init__) = some (.type "function"))
    (l_Crossed___init__ : K.lookup f_Crossed___init__ = some ⟨oc_Crossed___init__, od_Crossed___init__, .func (PySem.W.fnOf "__init__" "Crossed.__init__" (defArgs s_Crossed___init__) (defBody s_Crossed___init__) (defScope s_Crossed___init__) .none kV_Crossed___init__ dc_Crossed___init__ pm_Crossed___init__ an_Crossed___init__ cd_Crossed___init__ ct_Crossed___init__), sl_Crossed___init__⟩)
    (c_Crossed___init__ : PySem.W.codeIn K cd_Crossed___init__ "Crossed.__init__" = true)
    (k_Crossed___init__ : PySem.W.keepIn K (.ref f_Crossed___init__) = true)
    (z_abs : PySem.W.nsIn K mainGlobals "abs" = some none)
    (z_len : PySem.W.nsIn K mainGlobals "len" = some none)
    (z_int : PySem.W.nsIn K mainGlobals "int" = some none)
    (z_bool : PySem.W.nsIn K mainGlobals "bool" = some none)
    (z_str : PySem.W.nsIn K mainGlobals "str" = some none)
    (z_range : PySem.W.nsIn K mainGlobals "range" = some none)
    (z_isinstance : PySem.W.nsIn K mainGlobals "isinstance" = some none)
    (z_ValueError : PySem.W.nsIn K mainGlobals "ValueError" = some none)
    (v_gcd : PySem.W.nsIn K mainGlobals "gcd" = some (some (.builtin "math.gcd")))
-/
open PySem PySem.W PyProof.Rows
set_option maxRecDepth 100000 in
set_option maxHeartbeats 0 in
theorem PySem.Challenge.cw_fewcarry_k06_span_order_holds : PySem.Challenge.rw_fewcarry_k06_span_order.Holds := by
  w_on; o_law; k_head; (case hw => w_witness2)
  k_fill
  refine DL.walkB (l := PySem.Challenge.rw_fewcarry_k06_span_order) (k := 10) (x := "script") rfl rfl ⟨rfl, by decide, by decide⟩ (fun w h Y => PySem.W.kIn_of Y) ?F
  case F =>
    intro w mg fa h KX G hmg
    refine' K06.all_mk KX G hmg ?a_Ratio ?pg_Ratio ?hd_Ratio ?po_Ratio ?sa_Ratio ?mk_Ratio ?sf_Ratio ?kc_Ratio ?ha_Ratio ?mo_Ratio ?is_Ratio ?su_Ratio ?ty_Ratio ?no_top_Ratio ?no_bottom_Ratio ?a_Span ?pg_Span ?hd_Span ?po_Span ?sa_Span ?mk_Span ?sf_Span ?kc_Span ?ha_Span ?mo_Span ?is_Span ?su_Span ?ty_Span ?no_low_Span ?no_high_Span ?a_Apart ?xi_Apart ?ex_Apart ?ty_Apart ?kc_Apart ?ga_Apart ?gg_Apart ?hd_Apart ?ha_Apart ?mo_Apart ?is_Apart ?su_Apart ?a_Crossed ?l_Crossed ?rf_Crossed ?sa_Crossed ?ex_Crossed ?ty_Crossed ?kc_Crossed ?ga_Crossed ?gg_Crossed ?hd_Crossed ?ha_Crossed ?mo_Crossed ?is_Crossed ?su_Crossed ?no_low_Crossed ?no_high_Crossed ?a_CarryError ?ex_CarryError ?ty_CarryError ?hd_CarryError ?is_CarryError ?su_Ratio_Span ?su_Span_Ratio ?su_Apart_Crossed ?su_Crossed_Apart ?su_Apart_CarryError ?su_Crossed_CarryError ?sT_Apart_ValueError ?sT_Crossed_ValueError ?kt_NoneType_Ratio ?sb_NoneType_Ratio ?nf_NoneType_Ratio ?kt_int_Ratio ?sb_int_Ratio ?nf_int_Ratio ?kt_str_Ratio ?sb_str_Ratio ?nf_str_Ratio ?kt_list_Ratio ?sb_list_Ratio ?nf_list_Ratio ?kt_tuple_Ratio ?sb_tuple_Ratio ?nf_tuple_Ratio ?kt_NoneType_Span ?sb_NoneType_Span ?nf_NoneType_Span ?kt_int_Span ?sb_int_Span ?nf_int_Span ?kt_str_Span ?sb_str_Span ?nf_str_Span ?kt_list_Span ?sb_list_Span ?nf_list_Span ?kt_tuple_Span ?sb_tuple_Span ?nf_tuple_Span ?gs ?gt ?a_Ratio___init__ ?i_Ratio___init__ ?l_Ratio___init__ ?lT_Ratio___init__ ?c_Ratio___init__ ?k_Ratio___init__ ?a_Ratio_compare ?i_Ratio_compare ?l_Ratio_compare ?c_Ratio_compare ?k_Ratio_compare ?a_Ratio_text ?i_Ratio_text ?l_Ratio_text ?c_Ratio_text ?k_Ratio_text ?a_Ratio___eq__ ?i_Ratio___eq__ ?l_Ratio___eq__ ?c_Ratio___eq__ ?k_Ratio___eq__ ?a_Ratio___sub__ ?i_Ratio___sub__ ?l_Ratio___sub__ ?c_Ratio___sub__ ?k_Ratio___sub__ ?a_lesser ?l_lesser ?c_lesser ?k_lesser ?a_greater ?l_greater ?c_greater ?k_greater ?a_Span___init__ ?i_Span___init__ ?l_Span___init__ ?c_Span___init__ ?k_Span___init__ ?a_Span___eq__ ?i_Span___eq__ ?l_Span___eq__ ?c_Span___eq__ ?k_Span___eq__ ?a_Span___contains__ ?i_Span___contains__ ?l_Span___contains__ ?c_Span___contains__ ?k_Span___contains__ ?a_Span___and__ ?i_Span___and__ ?l_Span___and__ ?c_Span___and__ ?k_Span___and__ ?a_Span_at_most ?i_Span_at_most ?l_Span_at_most ?c_Span_at_most ?k_Span_at_most ?a_Span_length ?i_Span_length ?l_Span_length ?c_Span_length ?k_Span_length ?a_Span_text ?i_Span_text ?l_Span_text ?c_Span_text ?k_Span_text ?a_Span_point ?r_Span_point ?rd_Span_point ?ga_Span_point ?l_Span_point ?c_Span_point ?k_Span_point ?a__law_start ?l__law_start ?c__law_start ?k__law_start ?a__law_digit ?l__law_digit ?c__law_digit ?k__law_digit ?a__law_fraction ?l__law_fraction ?c__law_fraction ?k__law_fraction ?a__law_less ?l__law_less ?c__law_less ?k__law_less ?a__law_plus ?l__law_plus ?c__law_plus ?k__law_plus ?a__law_minus ?l__law_minus ?c__law_minus ?k__law_minus ?a__law_ends ?l__law_ends ?c__law_ends ?k__law_ends ?a__law_between ?l__law_between ?c__law_between ?k__law_between ?a__law_second ?l__law_second ?c__law_second ?k__law_second ?a__law_lowest ?l__law_lowest ?c__law_lowest ?k__law_lowest ?a__law_written ?l__law_written ?c__law_written ?k__law_written ?a__law_equals ?l__law_equals ?c__law_equals ?k__law_equals ?a__law_is_span ?l__law_is_span ?c__law_is_span ?k__law_is_span ?a__law_order ?l__law_order ?c__law_order ?k__law_order ?a__law_apart ?l__law_apart ?c__law_apart ?k__law_apart ?a__law_common ?l__law_common ?c__law_common ?k__law_common ?a__law_same ?l__law_same ?c__law_same ?k__law_same ?a__law_two ?l__law_two ?c__law_two ?k__law_two ?a__law_contains ?l__law_contains ?c__law_contains ?k__law_contains ?a__law_crossed ?l__law_crossed ?c__law_crossed ?k__law_crossed ?a__law_alone ?l__law_alone ?c__law_alone ?k__law_alone ?a_law ?l_law ?c_law ?k_law ?a_Crossed___init__ ?i_Crossed___init__ ?l_Crossed___init__ ?c_Crossed___init__ ?k_Crossed___init__ ?z_abs ?z_len ?z_int ?z_bool ?z_str ?z_range ?z_isinstance ?z_ValueError ?v_gcd
    (case a_Ratio => k_is)
    (case pg_Ratio => k_is)
    (case hd_Ratio => k_is)
    (case po_Ratio => k_is)
    (case sa_Ratio => k_is)
    (case mk_Ratio => k_is)
    (case sf_Ratio => k_is)
    (case kc_Ratio => k_is)
    (case ha_Ratio => k_is)
    (case mo_Ratio => k_is)
    (case is_Ratio => k_is)
    (case su_Ratio => k_is)
    (case ty_Ratio => k_is)
    (case no_top_Ratio => k_is)
    (case no_bottom_Ratio => k_is)
    (case a_Span => k_is)
    (case pg_Span => k_is)
    (case hd_Span => k_is)
    (case po_Span => k_is)
    (case sa_Span => k_is)
    (case mk_Span => k_is)
    (case sf_Span => k_is)
    (case kc_Span => k_is)
    (case ha_Span => k_is)
    (case mo_Span => k_is)
    (case is_Span => k_is)
    (case su_Span => k_is)
    (case ty_Span => k_is)
    (case no_low_Span => k_is)
    (case no_high_Span => k_is)
    (case a_Apart => k_is)
    (case xi_Apart => k_exc)
    (case ex_Apart => k_is)
    (case ty_Apart => k_is)
    (case kc_Apart => k_is)
    (case ga_Apart => k_is)
    (case gg_Apart => k_is)
    (case hd_Apart => k_is)
    (case ha_Apart => k_is)
    (case mo_Apart => k_is)
    (case is_Apart => k_is)
    (case su_Apart => k_is)
    (case a_Crossed => k_is)
    (case l_Crossed => k_is)
    (case rf_Crossed => decide +kernel)
    (case sa_Crossed => k_is)
    (case ex_Crossed => k_is)
    (case ty_Crossed => k_is)
    (case kc_Crossed => k_is)
    (case ga_Crossed => k_is)
    (case gg_Crossed => k_is)
    (case hd_Crossed => k_is)
    (case ha_Crossed => k_is)
    (case mo_Crossed => k_is)
    (case is_Crossed => k_is)
    (case su_Crossed => k_is)
    (case no_low_Crossed => k_is)
    (case no_high_Crossed => k_is)
    (case a_CarryError => k_is)
    (case ex_CarryError => k_is)
    (case ty_CarryError => k_is)
    (case hd_CarryError => k_is)
    (case is_CarryError => k_is)
    (case su_Ratio_Span => k_is)
    (case su_Span_Ratio => k_is)
    (case su_Apart_Crossed => k_is)
    (case su_Crossed_Apart => k_is)
    (case su_Apart_CarryError => k_is)
    (case su_Crossed_CarryError => k_is)
    (case sT_Apart_ValueError => k_is)
    (case sT_Crossed_ValueError => k_is)
    (case kt_NoneType_Ratio => k_is)
    (case sb_NoneType_Ratio => k_is)
    (case nf_NoneType_Ratio => k_is)
    (case kt_int_Ratio => k_is)
    (case sb_int_Ratio => k_is)
    (case nf_int_Ratio => k_is)
    (case kt_str_Ratio => k_is)
    (case sb_str_Ratio => k_is)
    (case nf_str_Ratio => k_is)
    (case kt_list_Ratio => k_is)
    (case sb_list_Ratio => k_is)
    (case nf_list_Ratio => k_is)
    (case kt_tuple_Ratio => k_is)
    (case sb_tuple_Ratio => k_is)
    (case nf_tuple_Ratio => k_is)
    (case kt_NoneType_Span => k_is)
    (case sb_NoneType_Span => k_is)
    (case nf_NoneType_Span => k_is)
    (case kt_int_Span => k_is)
    (case sb_int_Span => k_is)
    (case nf_int_Span => k_is)
    (case kt_str_Span => k_is)
    (case sb_str_Span => k_is)
    (case nf_str_Span => k_is)
    (case kt_list_Span => k_is)
    (case sb_list_Span => k_is)
    (case nf_list_Span => k_is)
    (case kt_tuple_Span => k_is)
    (case sb_tuple_Span => k_is)
    (case nf_tuple_Span => k_is)
    (case gs => k_is)
    (case gt => k_is)
    (case a_Ratio___init__ => k_is)
    (case i_Ratio___init__ => k_is)
    (case l_Ratio___init__ => k_is)
    (case lT_Ratio___init__ => k_is)
    (case c_Ratio___init__ => k_is)
    (case k_Ratio___init__ => k_is)
    (case a_Ratio_compare => k_is)
    (case i_Ratio_compare => k_is)
    (case l_Ratio_compare => k_is)
    (case c_Ratio_compare => k_is)
    (case k_Ratio_compare => k_is)
    (case a_Ratio_text => k_is)
    (case i_Ratio_text => k_is)
    (case l_Ratio_text => k_is)
    (case c_Ratio_text => k_is)
    (case k_Ratio_text => k_is)
    (case a_Ratio___eq__ => k_is)
    (case i_Ratio___eq__ => k_is)
    (case l_Ratio___eq__ => k_is)
    (case c_Ratio___eq__ => k_is)
    (case k_Ratio___eq__ => k_is)
    (case a_Ratio___sub__ => k_is)
    (case i_Ratio___sub__ => k_is)
    (case l_Ratio___sub__ => k_is)
    (case c_Ratio___sub__ => k_is)
    (case k_Ratio___sub__ => k_is)
    (case a_lesser => k_is)
    (case l_lesser => k_is)
    (case c_lesser => k_is)
    (case k_lesser => k_is)
    (case a_greater => k_is)
    (case l_greater => k_is)
    (case c_greater => k_is)
    (case k_greater => k_is)
    (case a_Span___init__ => k_is)
    (case i_Span___init__ => k_is)
    (case l_Span___init__ => k_is)
    (case c_Span___init__ => k_is)
    (case k_Span___init__ => k_is)
    (case a_Span___eq__ => k_is)
    (case i_Span___eq__ => k_is)
    (case l_Span___eq__ => k_is)
    (case c_Span___eq__ => k_is)
    (case k_Span___eq__ => k_is)
    (case a_Span___contains__ => k_is)
    (case i_Span___contains__ => k_is)
    (case l_Span___contains__ => k_is)
    (case c_Span___contains__ => k_is)
    (case k_Span___contains__ => k_is)
    (case a_Span___and__ => k_is)
    (case i_Span___and__ => k_is)
    (case l_Span___and__ => k_is)
    (case c_Span___and__ => k_is)
    (case k_Span___and__ => k_is)
    (case a_Span_at_most => k_is)
    (case i_Span_at_most => k_is)
    (case l_Span_at_most => k_is)
    (case c_Span_at_most => k_is)
    (case k_Span_at_most => k_is)
    (case a_Span_length => k_is)
    (case i_Span_length => k_is)
    (case l_Span_length => k_is)
    (case c_Span_length => k_is)
    (case k_Span_length => k_is)
    (case a_Span_text => k_is)
    (case i_Span_text => k_is)
    (case l_Span_text => k_is)
    (case c_Span_text => k_is)
    (case k_Span_text => k_is)
    (case a_Span_point => k_is)
    (case r_Span_point => k_is)
    (case rd_Span_point => k_is)
    (case ga_Span_point => k_is)
    (case l_Span_point => k_is)
    (case c_Span_point => k_is)
    (case k_Span_point => k_is)
    (case a__law_start => k_is)
    (case l__law_start => k_is)
    (case c__law_start => k_is)
    (case k__law_start => k_is)
    (case a__law_digit => k_is)
    (case l__law_digit => k_is)
    (case c__law_digit => k_is)
    (case k__law_digit => k_is)
    (case a__law_fraction => k_is)
    (case l__law_fraction => k_is)
    (case c__law_fraction => k_is)
    (case k__law_fraction => k_is)
    (case a__law_less => k_is)
    (case l__law_less => k_is)
    (case c__law_less => k_is)
    (case k__law_less => k_is)
    (case a__law_plus => k_is)
    (case l__law_plus => k_is)
    (case c__law_plus => k_is)
    (case k__law_plus => k_is)
    (case a__law_minus => k_is)
    (case l__law_minus => k_is)
    (case c__law_minus => k_is)
    (case k__law_minus => k_is)
    (case a__law_ends => k_is)
    (case l__law_ends => k_is)
    (case c__law_ends => k_is)
    (case k__law_ends => k_is)
    (case a__law_between => k_is)
    (case l__law_between => k_is)
    (case c__law_between => k_is)
    (case k__law_between => k_is)
    (case a__law_second => k_is)
    (case l__law_second => k_is)
    (case c__law_second => k_is)
    (case k__law_second => k_is)
    (case a__law_lowest => k_is)
    (case l__law_lowest => k_is)
    (case c__law_lowest => k_is)
    (case k__law_lowest => k_is)
    (case a__law_written => k_is)
    (case l__law_written => k_is)
    (case c__law_written => k_is)
    (case k__law_written => k_is)
    (case a__law_equals => k_is)
    (case l__law_equals => k_is)
    (case c__law_equals => k_is)
    (case k__law_equals => k_is)
    (case a__law_is_span => k_is)
    (case l__law_is_span => k_is)
    (case c__law_is_span => k_is)
    (case k__law_is_span => k_is)
    (case a__law_order => k_is)
    (case l__law_order => k_is)
    (case c__law_order => k_is)
    (case k__law_order => k_is)
    (case a__law_apart => k_is)
    (case l__law_apart => k_is)
    (case c__law_apart => k_is)
    (case k__law_apart => k_is)
    (case a__law_common => k_is)
    (case l__law_common => k_is)
    (case c__law_common => k_is)
    (case k__law_common => k_is)
    (case a__law_same => k_is)
    (case l__law_same => k_is)
    (case c__law_same => k_is)
    (case k__law_same => k_is)
    (case a__law_two => k_is)
    (case l__law_two => k_is)
    (case c__law_two => k_is)
    (case k__law_two => k_is)
    (case a__law_contains => k_is)
    (case l__law_contains => k_is)
    (case c__law_contains => k_is)
    (case k__law_contains => k_is)
    (case a__law_crossed => k_is)
    (case l__law_crossed => k_is)
    (case c__law_crossed => k_is)
    (case k__law_crossed => k_is)
    (case a__law_alone => k_is)
    (case l__law_alone => k_is)
    (case c__law_alone => k_is)
    (case k__law_alone => k_is)
    (case a_law => k_is)
    (case l_law => k_is)
    (case c_law => k_is)
    (case k_law => k_is)
    (case a_Crossed___init__ => k_is)
    (case i_Crossed___init__ => k_is)
    (case l_Crossed___init__ => k_is)
    (case c_Crossed___init__ => k_is)
    (case k_Crossed___init__ => k_is)
    (case z_abs => k_is)
    (case z_len => k_is)
    (case z_int => k_is)
    (case z_bool => k_is)
    (case z_str => k_is)
    (case z_range => k_is)
    (case z_isinstance => k_is)
    (case z_ValueError => k_is)
    (case v_gcd => k_is)
