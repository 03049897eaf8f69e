import PyProof.Rows.All
import Wide.All
import OpenK.AllK
import Wide.FinOn
import HandS.ForMost
import HandS.ForExc
import HandS.ExcInit
import HandS.CallSlots
import HandS.Wide
import HandS.Style
import HandS.IsInst
import HandS.Comp
import HandS.Gcd
import HandS.ExcCtx
import HandS.HotCalls
import HandS.Defaults
import HandS.ExcField
import HandS.EndBits
import KE.KExcIs
import HandS.ExcIs
import HandS.OwnEq
import PyProof.P3Eq
import HandS.ClsMeth
import PyProof.FitsInt
import KE.KOpsOwn
import HandS.SetFor
import HandS.WideBits
import PyProof.Rows.RuleN_abs
import PySem.Challenge.RW_fewcarry_k01_fraction_arithmetic
set_option Elab.async false
set_option linter.all false
set_option maxRecDepth 100000
/-! DL1: values as trees (D), what lies mutable (Mu), and what a reading of the hand layer does to them. -/
namespace DL
open PySem PySem.Spec L2
open PyProof.Rows hiding St

inductive D where
  | non | bl (b : Bool) | int (i : Int) | str (x : Str) | ty (n : String) | ref (a : Addr)
  | tup (xs : List D) | lst (xs : List D) | dic (kvs : List (Key × D)) | ins (C : Addr) (ns : List Str) (ds : List D)
  /-- a caught exception: where it stands, its own dict, its class, its fields -/
  | exc (a : Addr) (dd : Option Addr) (C : Addr) (ns : List Str) (ds : List D)

/-- a mutable object that stands at an address -/
inductive MO where
  | lst (xs : List D) | dic (kvs : List (Key × D)) | ins (C : Addr) (ns : List Str) (ds : List D)
abbrev Mu := List (Addr × MO)
def dom (m : Mu) (a : Addr) : Prop := a ∈ m.map (·.1)
theorem dom_nil {a : Addr} : ¬ dom [] a := fun h => by simp [dom] at h
theorem dom_cons {m : Mu} {p : Addr × MO} {a : Addr} : dom (p :: m) a ↔ a = p.1 ∨ dom m a := by simp [dom]

mutual
inductive Rep (M : Addr → Prop) (H : Hp) : D → V → Prop
  | non : Rep M H .non .non
  | bl (b : Bool) : Rep M H (.bl b) (.bl b)
  | int (i : Int) : Rep M H (.int i) (.int i)
  | str (x : Str) : Rep M H (.str x) (.str x)
  | ty (n : String) : Rep M H (.ty n) (.ty n)
  | ref (a : Addr) : Rep M H (.ref a) (.ref a)
  | tup {a : Addr} {xs : List D} {vs : List V} (m : ¬ M a) (h : Rd H a (.tup vs)) (r : Reps M H xs vs) : Rep M H (.tup xs) (.ref a)
  | lst {a : Addr} {xs : List D} {vs : List V} (m : ¬ M a) (h : Rd H a (.lst vs)) (r : Reps M H xs vs) : Rep M H (.lst xs) (.ref a)
  | dic {a : Addr} {kvs : List (Key × D)} {kws : List (Key × V)} (m : ¬ M a) (h : H a = some (.dK kws)) (r : RepK M H kvs kws) : Rep M H (.dic kvs) (.ref a)
  | ins {a C dx : Addr} {ns : List Str} {ds : List D} {gs : List (Str × V)} (m : ¬ M a) (h : H a = some (.ins C dx gs)) (r : RepF M H ns ds gs) : Rep M H (.ins C ns ds) (.ref a)
  | excN {a C : Addr} : Rep M H (.exc a none C [] []) (.ref a)
  | excS {a d C : Addr} {ns : List Str} {ds : List D} {gs : List (Str × V)} (m : ¬ M d) (h : H d = some (.xd gs)) (r : RepF M H ns ds gs) : Rep M H (.exc a (some d) C ns ds) (.ref a)
inductive Reps (M : Addr → Prop) (H : Hp) : List D → List V → Prop
  | nil : Reps M H [] []
  | cons {d : D} {v : V} {ds : List D} {vs : List V} (r : Rep M H d v) (t : Reps M H ds vs) : Reps M H (d :: ds) (v :: vs)
inductive RepK (M : Addr → Prop) (H : Hp) : List (Key × D) → List (Key × V) → Prop
  | nil : RepK M H [] []
  | cons {k : Key} {d : D} {v : V} {ds : List (Key × D)} {vs : List (Key × V)} (r : Rep M H d v) (t : RepK M H ds vs) : RepK M H ((k, d) :: ds) ((k, v) :: vs)
inductive RepF (M : Addr → Prop) (H : Hp) : List Str → List D → List (Str × V) → Prop
  | nil : RepF M H [] [] []
  | cons {n : Str} {d : D} {v : V} {ns : List Str} {ds : List D} {vs : List (Str × V)} (r : Rep M H d v) (t : RepF M H ns ds vs) : RepF M H (n :: ns) (d :: ds) ((n, v) :: vs)
end

/-- from M, H to M', H': what was fixed is fixed and as it was -/
def Stp (M : Addr → Prop) (H : Hp) (M' : Addr → Prop) (H' : Hp) : Prop := ∀ a o, H a = some o → ¬ M a → H' a = some o ∧ ¬ M' a
theorem Stp.refl (M : Addr → Prop) (H : Hp) : Stp M H M H := fun _ _ h m => ⟨h, m⟩
theorem Stp.trans {M M1 M2 : Addr → Prop} {H H1 H2 : Hp} (a : Stp M H M1 H1) (b : Stp M1 H1 M2 H2) : Stp M H M2 H2 := fun x o h m => b x o (a x o h m).1 (a x o h m).2
theorem Stp.rd {M M' : Addr → Prop} {H H' : Hp} (s : Stp M H M' H') {a : Addr} {u : HO} (m : ¬ M a) (h : Rd H a u) : Rd H' a u ∧ ¬ M' a := by
  rcases h with h | ⟨o, h⟩
  · exact ⟨.inl (s a _ h m).1, (s a _ h m).2⟩
  · exact ⟨.inr ⟨o, (s a _ h m).1⟩, (s a _ h m).2⟩
/-- a new object is laid (fixed) -/
theorem Stp.new {M : Addr → Prop} {H : Hp} {p : Addr} {o : HO} (n : H p = none) : Stp M H M (upd H p o) := fun a u h m => ⟨by rw [upd_ne (ne_of_none h n)]; exact h, m⟩
/-- .. mutable -/
theorem Stp.newM {m : Mu} {H : Hp} {p : Addr} {o : HO} {x : MO} (n : H p = none) : Stp (dom m) H (dom ((p, x) :: m)) (upd H p o) := fun a u h k =>
  ⟨by rw [upd_ne (ne_of_none h n)]; exact h, fun z => (dom_cons.mp z).elim (ne_of_none h n) k⟩
/-- a mutable one is written -/
theorem Stp.wr {m m' : Mu} {H : Hp} {p : Addr} {o : HO} (hp : dom m p) (hd : ∀ a, dom m' a → dom m a) : Stp (dom m) H (dom m') (upd H p o) := fun a u h k =>
  ⟨by rw [upd_ne (fun e => k (by rw [e]; exact hp))]; exact h, fun z => k (hd a z)⟩
theorem Stp.less {M M' : Addr → Prop} {H : Hp} (h : ∀ a, M' a → M a) : Stp M H M' H := fun a _ e m => ⟨e, fun z => m (h a z)⟩

mutual
theorem Rep.mono {M M' : Addr → Prop} {H H' : Hp} (s : Stp M H M' H') : ∀ {d : D} {v : V}, Rep M H d v → Rep M' H' d v
  | _, _, .non => .non
  | _, _, .bl b => .bl b
  | _, _, .int i => .int i
  | _, _, .str x => .str x
  | _, _, .ty n => .ty n
  | _, _, .ref a => .ref a
  | _, _, .tup m h r => .tup (s.rd m h).2 (s.rd m h).1 (Reps.mono s r)
  | _, _, .lst m h r => .lst (s.rd m h).2 (s.rd m h).1 (Reps.mono s r)
  | _, _, .dic m h r => .dic (s _ _ h m).2 (s _ _ h m).1 (RepK.mono s r)
  | _, _, .ins m h r => .ins (s _ _ h m).2 (s _ _ h m).1 (RepF.mono s r)
  | _, _, .excN => .excN
  | _, _, .excS m h r => .excS (s _ _ h m).2 (s _ _ h m).1 (RepF.mono s r)
theorem Reps.mono {M M' : Addr → Prop} {H H' : Hp} (s : Stp M H M' H') : ∀ {d : List D} {v : List V}, Reps M H d v → Reps M' H' d v
  | _, _, .nil => .nil
  | _, _, .cons r t => .cons (Rep.mono s r) (Reps.mono s t)
theorem RepK.mono {M M' : Addr → Prop} {H H' : Hp} (s : Stp M H M' H') : ∀ {d : List (Key × D)} {v : List (Key × V)}, RepK M H d v → RepK M' H' d v
  | _, _, .nil => .nil
  | _, _, .cons r t => .cons (Rep.mono s r) (RepK.mono s t)
theorem RepF.mono {M M' : Addr → Prop} {H H' : Hp} (s : Stp M H M' H') : ∀ {n : List Str} {d : List D} {v : List (Str × V)}, RepF M H n d v → RepF M' H' n d v
  | _, _, _, .nil => .nil
  | _, _, _, .cons r t => .cons (Rep.mono s r) (RepF.mono s t)
end

theorem Reps.length {M : Addr → Prop} {H : Hp} : ∀ {d : List D} {v : List V}, Reps M H d v → d.length = v.length
  | _, _, .nil => rfl
  | _, _, .cons _ t => congrArg (· + 1) (Reps.length t)
theorem Reps.get {M : Addr → Prop} {H : Hp} : ∀ {d : List D} {v : List V} {i : Nat} {x : D}, Reps M H d v → d[i]? = some x → ∃ y, v[i]? = some y ∧ Rep M H x y
  | _, _, _, _, .nil, e => by simp at e
  | _, _, 0, _, .cons r _, e => by simp at e; subst e; exact ⟨_, rfl, r⟩
  | _, _, i + 1, x, .cons _ t, e => by
    obtain ⟨y, h1, h2⟩ := Reps.get (i := i) (x := x) t (by simpa using e)
    exact ⟨y, by simpa using h1, h2⟩
theorem Reps.getV {M : Addr → Prop} {H : Hp} : ∀ {d : List D} {v : List V} {i : Nat} {y : V}, Reps M H d v → v[i]? = some y → ∃ x, d[i]? = some x ∧ Rep M H x y
  | _, _, _, _, .nil, e => by simp at e
  | _, _, 0, _, .cons r _, e => by simp at e; subst e; exact ⟨_, rfl, r⟩
  | _, _, i + 1, y, .cons _ t, e => by
    obtain ⟨x, h1, h2⟩ := Reps.getV (i := i) (y := y) t (by simpa using e)
    exact ⟨x, by simpa using h1, h2⟩
theorem Reps.append {M : Addr → Prop} {H : Hp} : ∀ {d d' : List D} {v v' : List V}, Reps M H d v → Reps M H d' v' → Reps M H (d ++ d') (v ++ v')
  | _, _, _, _, .nil, h => h
  | _, _, _, _, .cons r t, h => .cons r (Reps.append t h)
theorem Reps.set {M : Addr → Prop} {H : Hp} {x : D} {y : V} (q : Rep M H x y) : ∀ {d : List D} {v : List V} (i : Nat), Reps M H d v → Reps M H (d.set i x) (v.set i y)
  | _, _, _, .nil => .nil
  | _, _, 0, .cons _ t => .cons q t
  | _, _, i + 1, .cons r t => .cons r (Reps.set q i t)
theorem Reps.drop {M : Addr → Prop} {H : Hp} : ∀ {d : List D} {v : List V} (n : Nat), Reps M H d v → Reps M H (d.drop n) (v.drop n)
  | _, _, 0, h => h
  | _, _, _ + 1, .nil => .nil
  | _, _, n + 1, .cons _ t => Reps.drop n t
theorem Reps.take {M : Addr → Prop} {H : Hp} : ∀ {d : List D} {v : List V} (n : Nat), Reps M H d v → Reps M H (d.take n) (v.take n)
  | _, _, 0, _ => .nil
  | _, _, _ + 1, .nil => .nil
  | _, _, n + 1, .cons r t => .cons r (Reps.take n t)
theorem Reps.ints {M : Addr → Prop} {H : Hp} : ∀ (l : List Int), Reps M H (l.map D.int) (l.map V.int)
  | [] => .nil
  | i :: l => .cons (.int i) (Reps.ints l)
theorem RepF.names {M : Addr → Prop} {H : Hp} : ∀ {n : List Str} {d : List D} {v : List (Str × V)}, RepF M H n d v → v.map (·.1) = n
  | _, _, _, .nil => rfl
  | _, _, _, .cons _ t => congrArg (_ :: ·) (RepF.names t)
/-- the place of a field -/
def fix (f : Str) : List Str → List D → Option D
  | n :: ns, d :: ds => if f = n then some d else fix f ns ds
  | _, _ => none
theorem RepF.look {M : Addr → Prop} {H : Hp} {f : Str} {x : D} : ∀ {n : List Str} {d : List D} {v : List (Str × V)}, RepF M H n d v → fix f n d = some x → ∃ y, v.lookup f = some y ∧ Rep M H x y
  | _, _, _, .nil, e => by simp [fix] at e
  | n :: ns, d :: ds, (_, v) :: vs, .cons r t, e => by
    unfold fix at e
    rw [lookup_put]
    by_cases h : f = n
    · rw [if_pos h] at e ⊢
      cases e
      exact ⟨v, rfl, r⟩
    · rw [if_neg h] at e ⊢
      exact RepF.look t e
theorem lookup_none {f : Str} : ∀ {v : List (Str × V)}, f ∉ v.map (·.1) → v.lookup f = none
  | [], _ => rfl
  | (n, v) :: vs, h => by
    rw [lookup_put, if_neg (fun e => h (by simp [e]))]
    exact lookup_none (fun z => h (by simp [z]))
theorem RepF.no {M : Addr → Prop} {H : Hp} {f : Str} {n : List Str} {d : List D} {v : List (Str × V)} (r : RepF M H n d v) (h : n.contains f = false) : v.lookup f = none :=
  lookup_none fun z => by
    rw [r.names] at z
    rw [List.contains_iff_mem.mpr z] at h
    cases h

/-! ### the mutable part -/
inductive MRep (M : Addr → Prop) (H : Hp) (a : Addr) : MO → Prop
  | lst {xs : List D} {vs : List V} (h : H a = some (.lst vs)) (r : Reps M H xs vs) : MRep M H a (.lst xs)
  | dic {kvs : List (Key × D)} {kws : List (Key × V)} (h : H a = some (.dK kws)) (r : RepK M H kvs kws) : MRep M H a (.dic kvs)
  | ins {C dx : Addr} {ns : List Str} {ds : List D} {gs : List (Str × V)} (h : H a = some (.ins C dx gs)) (r : RepF M H ns ds gs) : MRep M H a (.ins C ns ds)
structure MutR (m : Mu) (H : Hp) : Prop where
  nd : (m.map (·.1)).Nodup
  at_ : ∀ p ∈ m, MRep (dom m) H p.1 p.2
theorem MRep.there {M : Addr → Prop} {H : Hp} {a : Addr} {o : MO} (r : MRep M H a o) : ∃ u, H a = some u := by
  cases r with
  | lst h _ => exact ⟨_, h⟩
  | dic h _ => exact ⟨_, h⟩
  | ins h _ => exact ⟨_, h⟩
theorem MRep.mono {M M' : Addr → Prop} {H H' : Hp} {a : Addr} {o : MO} (s : Stp M H M' H') (k : ∀ u, H a = some u → H' a = some u) (r : MRep M H a o) : MRep M' H' a o := by
  cases r with
  | lst h r => exact .lst (k _ h) (r.mono s)
  | dic h r => exact .dic (k _ h) (r.mono s)
  | ins h r => exact .ins (k _ h) (r.mono s)
theorem MutR.nil (H : Hp) : MutR [] H := ⟨List.nodup_nil, fun _ h => by cases h⟩
theorem MutR.there {m : Mu} {H : Hp} (r : MutR m H) {a : Addr} (h : dom m a) : ∃ u, H a = some u := by
  obtain ⟨p, hp, e⟩ := List.mem_map.mp h
  subst e
  exact (r.at_ p hp).there
/-- a new fixed object -/
theorem MutR.new {m : Mu} {H : Hp} {p : Addr} {o : HO} (r : MutR m H) (n : H p = none) : MutR m (upd H p o) :=
  ⟨r.nd, fun q hq => (r.at_ q hq).mono (Stp.new n) fun u e => by rw [upd_ne (ne_of_none e n)]; exact e⟩
/-- a new mutable object -/
theorem MutR.newM {m : Mu} {H : Hp} {p : Addr} {o : HO} {x : MO} (r : MutR m H) (n : H p = none) (h : MRep (dom ((p, x) :: m)) (upd H p o) p x) : MutR ((p, x) :: m) (upd H p o) := by
  refine ⟨List.nodup_cons.mpr ⟨fun z => ?_, r.nd⟩, fun q hq => ?_⟩
  · obtain ⟨u, e⟩ := r.there (a := p) z
    rw [n] at e
    cases e
  · rcases List.mem_cons.mp hq with e | hq
    · subst e; exact h
    · exact (r.at_ q hq).mono (Stp.newM n) fun u e => by rw [upd_ne (ne_of_none e n)]; exact e
inductive At : Mu → Addr → MO → Prop
  | head {m : Mu} {p : Addr} {o : MO} : At ((p, o) :: m) p o
  | tail {m : Mu} {p : Addr} {o : MO} {q : Addr × MO} (h : At m p o) : At (q :: m) p o
inductive Put : Mu → Addr → MO → Mu → Prop
  | head {m : Mu} {p : Addr} {o u : MO} : Put ((p, o) :: m) p u ((p, u) :: m)
  | tail {m m' : Mu} {p : Addr} {u : MO} {q : Addr × MO} (h : Put m p u m') : Put (q :: m) p u (q :: m')
theorem At.mem {m : Mu} {p : Addr} {o : MO} (h : At m p o) : (p, o) ∈ m := by
  induction h with
  | head => exact List.mem_cons_self ..
  | tail _ ih => exact List.mem_cons_of_mem _ ih
theorem At.dom {m : Mu} {p : Addr} {o : MO} (h : At m p o) : dom m p := List.mem_map.mpr ⟨_, h.mem, rfl⟩
theorem At.rep {m : Mu} {p : Addr} {o : MO} {H : Hp} (h : At m p o) (r : MutR m H) : MRep (DL.dom m) H p o := r.at_ _ h.mem
theorem Put.keys {m m' : Mu} {p : Addr} {u : MO} (h : Put m p u m') : m'.map (·.1) = m.map (·.1) := by
  induction h with
  | head => rfl
  | tail _ ih => simp [ih]
theorem Put.dom {m m' : Mu} {p : Addr} {u : MO} (h : Put m p u m') : dom m' = dom m := by
  funext a
  unfold DL.dom
  rw [h.keys]
theorem Put.has {m m' : Mu} {p : Addr} {u : MO} (h : Put m p u m') : DL.dom m p := by
  induction h with
  | head => exact dom_cons.mpr (.inl rfl)
  | tail _ ih => exact dom_cons.mpr (.inr ih)
theorem Put.mem {m m' : Mu} {p : Addr} {u : MO} (h : Put m p u m') (nd : (m.map (·.1)).Nodup) : ∀ q ∈ m', (q = (p, u)) ∨ (q ∈ m ∧ q.1 ≠ p) := by
  induction h with
  | head =>
    intro q hq
    rcases List.mem_cons.mp hq with e | hq
    · exact .inl e
    · refine .inr ⟨List.mem_cons_of_mem _ hq, fun e => ?_⟩
      exact (List.nodup_cons.mp nd).1 (List.mem_map.mpr ⟨q, hq, e⟩)
  | tail h ih =>
    intro q hq
    rcases List.mem_cons.mp hq with e | hq
    · subst e
      refine .inr ⟨List.mem_cons_self .., fun e => ?_⟩
      have z := h.has
      rw [← e] at z
      exact (List.nodup_cons.mp nd).1 z
    · rcases ih (List.nodup_cons.mp nd).2 q hq with e | ⟨a, b⟩
      · exact .inl e
      · exact .inr ⟨List.mem_cons_of_mem _ a, b⟩
/-- a mutable object is written -/
theorem Put.stp {m m' : Mu} {p : Addr} {u : MO} {H : Hp} {o : HO} (h : Put m p u m') : Stp (DL.dom m) H (DL.dom m') (upd H p o) := Stp.wr h.has (fun a z => by rw [h.dom] at z; exact z)
theorem Put.mut {m m' : Mu} {p : Addr} {u : MO} {H : Hp} {o : HO} (h : Put m p u m') (r : MutR m H) (n : MRep (DL.dom m') (upd H p o) p u) : MutR m' (upd H p o) := by
  refine ⟨by rw [h.keys]; exact r.nd, fun q hq => ?_⟩
  rcases h.mem r.nd q hq with e | ⟨a, b⟩
  · subst e; exact n
  · exact (r.at_ q a).mono h.stp fun v e => by rw [upd_ne b]; exact e
/-- the newest mutable object is let go (it stays as it is) -/
theorem MutR.drop {m : Mu} {p : Addr × MO} {H : Hp} (r : MutR (p :: m) H) : MutR m H :=
  ⟨(List.nodup_cons.mp r.nd).2, fun q hq => (r.at_ q (List.mem_cons_of_mem _ hq)).mono (Stp.less fun a z => dom_cons.mpr (.inr z)) fun _ e => e⟩
theorem MutR.notin {m : Mu} {p : Addr × MO} {H : Hp} (r : MutR (p :: m) H) : ¬ dom m p.1 := (List.nodup_cons.mp r.nd).1

/-! ### frames -/
abbrev Rho := List (Option D)
inductive RO (M : Addr → Prop) (H : Hp) : Option D → Option V → Prop
  | none (v : Option V) : RO M H none v
  | some {d : D} {v : V} (r : Rep M H d v) : RO M H (some d) (some v)
inductive ROs (M : Addr → Prop) (H : Hp) : Rho → St → Prop
  | nil : ROs M H [] []
  | cons {d : Option D} {v : Option V} {ds : Rho} {vs : St} (r : RO M H d v) (t : ROs M H ds vs) : ROs M H (d :: ds) (v :: vs)
theorem RO.mono {M M' : Addr → Prop} {H H' : Hp} (s : Stp M H M' H') {d : Option D} {v : Option V} : RO M H d v → RO M' H' d v
  | .none v => .none v
  | .some r => .some (r.mono s)
theorem ROs.mono {M M' : Addr → Prop} {H H' : Hp} (s : Stp M H M' H') : ∀ {d : Rho} {v : St}, ROs M H d v → ROs M' H' d v
  | _, _, .nil => .nil
  | _, _, .cons r t => .cons (r.mono s) (ROs.mono s t)
theorem ROs.get {M : Addr → Prop} {H : Hp} : ∀ {d : Rho} {v : St} {i : Nat} {x : D}, ROs M H d v → d[i]? = some (some x) → ∃ y, v[i]? = some (some y) ∧ Rep M H x y
  | _, _, _, _, .nil, e => by simp at e
  | _, _, 0, _, .cons r _, e => by
    simp at e
    subst e
    cases r with
    | some r => exact ⟨_, rfl, r⟩
  | _, _, i + 1, x, .cons _ t, e => by
    obtain ⟨y, h1, h2⟩ := ROs.get (i := i) (x := x) t (by simpa using e)
    exact ⟨y, by simpa using h1, h2⟩
theorem ROs.set {M : Addr → Prop} {H : Hp} {x : Option D} {y : Option V} (q : RO M H x y) : ∀ {d : Rho} {v : St} (i : Nat), ROs M H d v → ROs M H (d.set i x) (v.set i y)
  | _, _, _, .nil => .nil
  | _, _, 0, .cons _ t => .cons q t
  | _, _, i + 1, .cons r t => .cons r (ROs.set q i t)
theorem ROs.start {M : Addr → Prop} {H : Hp} (k : Nat) : ∀ {ds : List D} {vs : List V}, Reps M H ds vs → ROs M H (ds.map some ++ List.replicate k none) (vs.map some ++ List.replicate k none)
  | _, _, .nil => by
    induction k with
    | zero => exact .nil
    | succ k ih => exact .cons (.none _) ih
  | _, _, .cons r t => .cons (.some r) (ROs.start k t)
structure EnvR (r : Rho) (m : Mu) (s : St) (H : Hp) : Prop where
  env : ROs (dom m) H r s
  mu : MutR m H
/-- forgetting what slots hold -/
inductive Le : Rho → Rho → Prop
  | nil : Le [] []
  | keep {d : Option D} {r r' : Rho} (t : Le r r') : Le (d :: r) (d :: r')
  | lose {d : Option D} {r r' : Rho} (t : Le r r') : Le (d :: r) (none :: r')
theorem ROs.le {M : Addr → Prop} {H : Hp} : ∀ {r r' : Rho} {v : St}, Le r r' → ROs M H r v → ROs M H r' v
  | _, _, _, .nil, h => h
  | _, _, _, .keep t, .cons a b => .cons a (ROs.le t b)
  | _, _, _, .lose t, .cons _ b => .cons (.none _) (ROs.le t b)

/-! ### exceptions -/
structure Ex where
  C : Addr
  ns : List Str
  ds : List D
def RepX (M : Addr → Prop) (H : Hp) (x : Ex) (cls : Value) (dd : Option Addr) : Prop :=
  cls = .ref x.C ∧ ((dd = none ∧ x.ns = [] ∧ x.ds = []) ∨ ∃ d gs, dd = some d ∧ H d = some (.xd gs) ∧ ¬ M d ∧ RepF M H x.ns x.ds gs)
theorem RepX.mono {M M' : Addr → Prop} {H H' : Hp} (s : Stp M H M' H') {x : Ex} {cls : Value} {dd : Option Addr} (h : RepX M H x cls dd) : RepX M' H' x cls dd := by
  obtain ⟨e, h⟩ := h
  refine ⟨e, ?_⟩
  rcases h with h | ⟨d, gs, h1, h2, h3, h4⟩
  · exact .inl h
  · exact .inr ⟨d, gs, h1, (s _ _ h2 h3).1, (s _ _ h2 h3).2, h4.mono s⟩

/-! ### what is wanted -/
abbrev KT := D → Mu → Prop
abbrev ET := Ex → Rho → Mu → Prop
def Go (m : Mu) (H : Hp) (K : KT) (Q : VK) : Prop := ∀ d m' v H', Stp (dom m) H (dom m') H' → MutR m' H' → Rep (dom m') H' d v → K d m' → Q v H'
def GoT (m : Mu) (H : Hp) (K : Bool → Mu → Prop) (Q : Bool → Hp → Prop) : Prop := ∀ b m' H', Stp (dom m) H (dom m') H' → MutR m' H' → K b m' → Q b H'
def GoA (m : Mu) (H : Hp) (K : List D → Mu → Prop) (Q : List V → Hp → Prop) : Prop := ∀ ds m' vs H', Stp (dom m) H (dom m') H' → MutR m' H' → Reps (dom m') H' ds vs → K ds m' → Q vs H'
/-- what is wanted of exceptions, at the frame's slots -/
def Rz (W : WX) (E : ET) (m : Mu) (H : Hp) : Prop := ∀ x r' m' cls dd s' H', Stp (dom m) H (dom m') H' → EnvR r' m' s' H' → RepX (dom m') H' x cls dd → E x r' m' → W cls dd s' H'
theorem Rz.step {W : WX} {E : ET} {m m1 : Mu} {H H1 : Hp} (z : Rz W E m H) (s : Stp (dom m) H (dom m1) H1) : Rz W E m1 H1 := fun x r' m' cls dd s' H' a b c e => z x r' m' cls dd s' H' (s.trans a) b c e
theorem Go.step {m m1 : Mu} {H H1 : Hp} {K : KT} {Q : VK} (g : Go m H K Q) (s : Stp (dom m) H (dom m1) H1) : Go m1 H1 K Q := fun d m' v H' a b c e => g d m' v H' (s.trans a) b c e

def We (W : WX) (E : ET) (t : TE) (r : Rho) (m : Mu) (K : KT) : Prop := ∀ s H Q, EnvR r m s H → Rz W E m H → Go m H K Q → t s H Q
def Wt (W : WX) (E : ET) (t : TT) (r : Rho) (m : Mu) (K : Bool → Mu → Prop) : Prop := ∀ s H Q, EnvR r m s H → Rz W E m H → GoT m H K Q → t s H Q
def Wa (W : WX) (E : ET) (t : TA) (r : Rho) (m : Mu) (K : List D → Mu → Prop) : Prop := ∀ s H Q, EnvR r m s H → Rz W E m H → GoA m H K Q → t s H Q
structure DEnds where
  nx : Rho → Mu → Prop
  rt : KT
  bk : Rho → Mu → Prop := fun _ _ => False
  ct : Rho → Mu → Prop := fun _ _ => False
structure GoS (m : Mu) (H : Hp) (P : DEnds) (De : Ends) : Prop where
  nx : ∀ r' m' s' H', Stp (dom m) H (dom m') H' → EnvR r' m' s' H' → P.nx r' m' → De.nx s' H'
  rt : ∀ d m' v H', Stp (dom m) H (dom m') H' → MutR m' H' → Rep (dom m') H' d v → P.rt d m' → De.rt v H'
  bk : ∀ r' m' s' H', Stp (dom m) H (dom m') H' → EnvR r' m' s' H' → P.bk r' m' → De.bk s' H'
  ct : ∀ r' m' s' H', Stp (dom m) H (dom m') H' → EnvR r' m' s' H' → P.ct r' m' → De.ct s' H'
theorem GoS.step {m m1 : Mu} {H H1 : Hp} {P : DEnds} {De : Ends} (g : GoS m H P De) (s : Stp (dom m) H (dom m1) H1) : GoS m1 H1 P De :=
  ⟨fun r' m' s' H' a => g.nx r' m' s' H' (s.trans a), fun d m' v H' a => g.rt d m' v H' (s.trans a), fun r' m' s' H' a => g.bk r' m' s' H' (s.trans a), fun r' m' s' H' a => g.ct r' m' s' H' (s.trans a)⟩
def Ws (W : WX) (E : ET) (t : TS) (r : Rho) (m : Mu) (P : DEnds) : Prop := ∀ s H De, EnvR r m s H → Rz W E m H → GoS m H P De → t De s H

section
variable {W : WX} {E : ET} {r : Rho} {m : Mu} {K : KT} {te ta tb tc : TE} {t u : TT} {a : TA} {P : DEnds} {ts tu : TS}
theorem EnvR.step {s : St} {H H1 : Hp} {m1 : Mu} (e : EnvR r m s H) (st : Stp (dom m) H (dom m1) H1) (mu : MutR m1 H1) : EnvR r m1 s H1 := ⟨e.env.mono st, mu⟩
/-- weaker wants -/
theorem We.imp {K' : KT} (h : We W E te r m K) (k : ∀ d m', K d m' → K' d m') : We W E te r m K' := fun s H Q e z g => h s H Q e z fun d m' v H' a b c x => g d m' v H' a b c (k d m' x)
theorem we_var {i : Nat} {d : D} (h : r[i]? = some (some d)) (k : K d m) : We W E (tVar i) r m K := fun s H Q e z g => by
  obtain ⟨v, h1, h2⟩ := e.env.get h
  exact ⟨v, h1, g d m v H (Stp.refl _ _) e.mu h2 k⟩
theorem we_cint {i : Int} (k : K (.int i) m) : We W E (tC (.int i)) r m K := fun s H Q e z g => g _ m _ H (Stp.refl _ _) e.mu (.int i) k
theorem we_cbl {b : Bool} (k : K (.bl b) m) : We W E (tC (.bl b)) r m K := fun s H Q e z g => g _ m _ H (Stp.refl _ _) e.mu (.bl b) k
theorem we_cnon (k : K .non m) : We W E (tC .non) r m K := fun s H Q e z g => g _ m _ H (Stp.refl _ _) e.mu .non k
theorem we_cstr {x : Str} (k : K (.str x) m) : We W E (tC (.str x)) r m K := fun s H Q e z g => g _ m _ H (Stp.refl _ _) e.mu (.str x) k
theorem we_cty {n : String} (k : K (.ty n) m) : We W E (tC (.ty n)) r m K := fun s H Q e z g => g _ m _ H (Stp.refl _ _) e.mu (.ty n) k
theorem we_cref {p : Addr} (k : K (.ref p) m) : We W E (tC (.ref p)) r m K := fun s H Q e z g => g _ m _ H (Stp.refl _ _) e.mu (.ref p) k

/-- an operation on values, at the frame's slots -/
abbrev O2 := V → V → St → Hp → VK → Prop
abbrev O1 := V → St → Hp → VK → Prop
def W2 (W : WX) (E : ET) (o : O2) (x y : D) (r : Rho) (m : Mu) (K : KT) : Prop := ∀ s H Q v w, EnvR r m s H → Rz W E m H → Rep (dom m) H x v → Rep (dom m) H y w → Go m H K Q → o v w s H Q
def W1 (W : WX) (E : ET) (o : O1) (x : D) (r : Rho) (m : Mu) (K : KT) : Prop := ∀ s H Q v, EnvR r m s H → Rz W E m H → Rep (dom m) H x v → Go m H K Q → o v s H Q
def t2 (o : O2) (ta tb : TE) : TE := fun s H Q => ta s H fun x H1 => tb s H1 fun y H2 => o x y s H2 Q
def t1 (o : O1) (ta : TE) : TE := fun s H Q => ta s H fun x H1 => o x s H1 Q
theorem we_2 {o : O2} (h : We W E ta r m fun x m1 => We W E tb r m1 fun y m2 => W2 W E o x y r m2 K) : We W E (t2 o ta tb) r m K := fun s H Q e z g =>
  h s H _ e z fun x m1 v H1 s1 mu1 r1 h1 => h1 s H1 _ (e.step s1 mu1) (z.step s1) fun y m2 w H2 s2 mu2 r2 h2 =>
    h2 s H2 Q v w ((e.step s1 mu1).step s2 mu2) ((z.step s1).step s2) (r1.mono s2) r2 ((g.step s1).step s2)
theorem we_1 {o : O1} (h : We W E ta r m fun x m1 => W1 W E o x r m1 K) : We W E (t1 o ta) r m K := fun s H Q e z g =>
  h s H _ e z fun x m1 v H1 s1 mu1 r1 h1 => h1 s H1 Q v (e.step s1 mu1) (z.step s1) r1 (g.step s1)

end
end DL
set_option Elab.async false
set_option linter.all false
set_option maxRecDepth 100000
/-! DL2: rules without types (an operation's reading is the union of what it can be), and what they do to values as trees. -/
namespace DL
open PySem PySem.Spec L2
open PyProof.Rows hiding St

/-! ### operations at the frame's slots -/
def OpS (X : Cx) (f : Value → Value → Sem Value) (o : O2) : Prop :=
  ∀ (pins : List (Addr × Obj)) (s : Shared) (σ : L2.St) (H : Hp) (x y : V) (u v : Value) (Q : VK), Inv X pins σ H s → RelV x u → RelV y v → o x y σ H Q → wpAny (model X.prog X.w) X.A (f u v) (EP X pins σ Q) X.xe s
def UnS (X : Cx) (f : Value → Sem Value) (o : O1) : Prop :=
  ∀ (pins : List (Addr × Obj)) (s : Shared) (σ : L2.St) (H : Hp) (x : V) (u : Value) (Q : VK), Inv X pins σ H s → RelV x u → o x σ H Q → wpAny (model X.prog X.w) X.A (f u) (EP X pins σ Q) X.xe s
abbrev OC := List V → L2.St → Hp → VK → Prop
def CallS (X : Cx) (f : Value) (o : OC) : Prop :=
  ∀ (pins : List (Addr × Obj)) (s : Shared) (σ : L2.St) (H : Hp) (xs : List V) (us : List Value) (Q : VK), Inv X pins σ H s → Vals xs us → o xs σ H Q → wpAny (model X.prog X.w) X.A (call f us) (EP X pins σ Q) X.xe s
def tC2 (o : OC) (t : TA) : TE := fun σ H Q => t σ H fun vs H1 => o vs σ H1 Q
section
variable {X : Cx} {op : Operator} {cop cop' : CmpOp} {uop : UnaryOp} {o o' : O2} {o1 o1' : O1} {oc oc' : OC} {a b c e : Expr} {es : List Expr} {ta tb tc : TE} {t : TA} {pos p : Pos} {f : Value → Value → Sem Value} {f1 : Value → Sem Value} {fv : Value} {x : Str} {T id : String}
theorem OpS.of {r : R2} (h : OpR X f r) : OpS X f (fun x y _ H Q => r x y H Q) := fun pins s σ H x y u v Q I ru rv q => h pins s σ H x y u v Q I ru rv q
theorem OpS.or (h : OpS X f o) (h' : OpS X f o') : OpS X f (fun x y s H Q => o x y s H Q ∨ o' x y s H Q) := fun pins s σ H x y u v Q I ru rv q => q.elim (h pins s σ H x y u v Q I ru rv) (h' pins s σ H x y u v Q I ru rv)
theorem UnS.of {r : V → Hp → VK → Prop} (h : UnR X f1 r) : UnS X f1 (fun x _ H Q => r x H Q) := fun pins s σ H x u Q I ru q => h pins s σ H x u Q I ru q
theorem UnS.or (h : UnS X f1 o1) (h' : UnS X f1 o1') : UnS X f1 (fun x s H Q => o1 x s H Q ∨ o1' x s H Q) := fun pins s σ H x u Q I ru q => q.elim (h pins s σ H x u Q I ru) (h' pins s σ H x u Q I ru)
theorem CallS.of {r : List V → Hp → VK → Prop} (h : CallR X fv r) : CallS X fv (fun xs _ H Q => r xs H Q) := fun pins s σ H xs us Q I ru q => h pins s σ H xs us Q I ru q
theorem CallS.or (h : CallS X fv oc) (h' : CallS X fv oc') : CallS X fv (fun xs s H Q => oc xs s H Q ∨ oc' xs s H Q) := fun pins s σ H xs us Q I ru q => q.elim (h pins s σ H xs us Q I ru) (h' pins s σ H xs us Q I ru)
theorem pe_bin (ho : OpS X (binaryOp op) o) (ha : PE X a ta) (hb : PE X b tb) : PE X (.BinOp a op b pos) (t2 o ta tb) :=
  ⟨fun pins s σ H Q I h => wpAny_BinOp (binT ha hb I (R := fun x y H2 => o x y σ H2 Q) h fun v u s2 x y H2 I2 r1 r2 q => ho pins s2 σ H2 x y v u Q I2 r1 r2 q)⟩
theorem pe_una (ho : UnS X (unaryOp uop) o1) (ha : PE X a ta) : PE X (.UnaryOp uop a pos) (t1 o1 ta) :=
  ⟨fun pins s σ H Q I h => UnaryOp_ (thn (ha.run pins s σ H _ I h) fun v s1 ⟨x, H1, I1, r1, q1⟩ => ho pins s1 σ H1 x v Q I1 r1 q1)⟩
theorem pe_cm (ho : OpS X (compareOp cop) o) (ha : PE X a ta) (hb : PE X b tb) (hm : behindInMarks cop b = false) : PE X (.Compare a [cop] [b] pos) (t2 o ta tb) :=
  ⟨fun pins s σ H Q I h => wpAny_Compare1 (binT ha hb I (R := fun x y H2 => o x y σ H2 Q) h fun v u s2 x y H2 I2 rx ry q => ho pins s2 σ H2 x y v u Q I2 rx ry q) hm⟩
theorem pt_cm (ho : OpS X (compareOp cop) o) (ha : PE X a ta) (hb : PE X b tb) (hm : behindInMarks cop b = false) : PT X (.Compare a [cop] [b] pos) (tTest (t2 o ta tb)) := by
  refine ⟨fun pins s σ H Q I h => ?_⟩
  refine wpAny_isTrue_Compare1 (thn (ha.run pins s σ H _ I h) fun v s1 ⟨x, H1, I1, r1, q1⟩ => thn (hb.run pins s1 σ H1 _ I1 q1) fun u s2 ⟨y, H2, I2, r2, q2⟩ =>
    thn (ho pins s2 σ H2 x y v u _ I2 r1 r2 q2) fun c s3 ⟨z, H3, I3, r3, k, e, q3⟩ => ?_) hm
  subst e
  cases r3
  exact wpAny_truthy_bool ⟨H3, I3, q3⟩
/-- a chain of two comparisons -/
def t3 (o o' : O2) (ta tb tc : TE) : TE := fun σ H Q => ta σ H fun x H1 => tb σ H1 fun y H2 => o x y σ H2 fun z H3 => ∃ k, z = .bl k ∧
  (if k = true then tc σ H3 fun w' H4 => o' y w' σ H4 Q else Q (.bl false) H3)
theorem pe_ch (ho : OpS X (compareOp cop) o) (ho' : OpS X (compareOp cop') o') (ha : PE X a ta) (hb : PE X b tb) (hc : PE X c tc)
    (hm : lastMarks [cop, cop'] [b, c] = false := by with_unfolding_all rfl) : PE X (.Compare a [cop, cop'] [b, c] pos) (t3 o o' ta tb tc) := by
  refine ⟨fun pins s σ H Q I h => ?_⟩
  refine Compare_chain (thn (ha.run pins s σ H _ I h) fun v s1 ⟨x, H1, I1, r1, q1⟩ => chain_link (thn (hb.run pins s1 σ H1 _ I1 q1) fun u s2 ⟨y, H2, I2, r2, q2⟩ =>
    thn (ho pins s2 σ H2 x y v u _ I2 r1 r2 q2) fun d s3 ⟨z, H3, I3, r3, k, e, q3⟩ => ?_)) hm
  subst e
  cases r3
  refine wpAny_truthy_bool ?_
  cases k with
  | false => exact ite_ff ⟨.bl false, H3, I3, rfl, q3⟩
  | true => exact ite_tt (chain_last (thn (hc.run pins s3 σ H3 _ I3 q3) fun w' s4 ⟨z', H4, I4, r4, q4⟩ => ho' pins s4 σ H4 y z' u w' Q I4 r2 r4 q4))
theorem pt_ch (ho : OpS X (compareOp cop) o) (ho' : OpS X (compareOp cop') o') (ha : PE X a ta) (hb : PE X b tb) (hc : PE X c tc)
    (hm : lastMarks [cop, cop'] [b, c] = false := by with_unfolding_all rfl) : PT X (.Compare a [cop, cop'] [b, c] pos) (tTest (t3 o o' ta tb tc)) := by
  refine ⟨fun pins s σ H Q I h => ?_⟩
  refine isTrue_chain (thn (ha.run pins s σ H _ I h) fun v s1 ⟨x, H1, I1, r1, q1⟩ => test_link (thn (hb.run pins s1 σ H1 _ I1 q1) fun u s2 ⟨y, H2, I2, r2, q2⟩ =>
    thn (ho pins s2 σ H2 x y v u _ I2 r1 r2 q2) fun d s3 ⟨z, H3, I3, r3, k, e, q3⟩ => ?_)) hm
  subst e
  cases r3
  refine wpAny_truthy_bool ?_
  cases k with
  | false =>
    obtain ⟨k', e', q'⟩ := q3
    cases e'
    exact ite_ff ⟨H3, I3, q'⟩
  | true =>
    refine ite_tt (test_last (thn (hc.run pins s3 σ H3 _ I3 q3) fun w' s4 ⟨z', H4, I4, r4, q4⟩ => thn (ho' pins s4 σ H4 y z' u w' _ I4 r2 r4 q4) fun d' s5 ⟨z2, H5, I5, r5, k2, e2, q5⟩ => ?_))
    subst e2
    cases r5
    exact wpAny_truthy_bool ⟨H5, I5, q5⟩
/-- a value as a test -/
def tTr (K : PySem.W.Frag) (ta : TE) : TT := fun σ H Q => ta σ H fun x H' => ∃ k, TruV K x H' k ∧ Q k H'
theorem pt_tr (ha : PE X a ta) (he : ∀ whole, isTrue a X.env whole = (do let v ← whole; standAt a.pos; holding [v] (truthy v)) := by intro _; rfl) : PT X a (tTr X.K ta) := pt_truth ha he
/-- built-in functions and classes by name -/
theorem pe_cb (hc : CallS X (.builtin id) oc) (hg : Gl X x) (hm : X.mg x = none) (hv : bootBuiltins x = some (.builtin id)) (ha : PA X (e :: es) t) (hn : x ≠ "__name__" := by decide) (hdb : (x == ("__debug__" : Str)) = false := by decide)
    (he : starEach (e :: es) X.env = (false, eval e X.env) :: starEach es X.env := by rfl) (hpl : (backTo pos (starEach es X.env)).any (·.1) = false := by rfl) : PE X (.Call (.Name x p) (e :: es) [] pos) (tC2 oc t) := by
  refine ⟨fun pins s σ H Q I h => ?_⟩
  refine wpAny_Call_Name_kw (ld_blt I hg hm hv ?_ hn hdb)
  exact PyProof.Rows.callWith_builtin1 (thn (ha.run pos pins s σ H _ I h) fun us s1 ⟨vs, H1, I1, r1, q1⟩ => hc pins s1 σ H1 vs us Q I1 r1 q1) he hpl
theorem pe_ct (hc : CallS X (.type T) oc) (hg : Gl X x) (hm : X.mg x = none) (hv : bootBuiltins x = some (.type T)) (ha : PA X (e :: es) t) (hn : x ≠ "__name__" := by decide) (hdb : (x == ("__debug__" : Str)) = false := by decide)
    (he : starEach (e :: es) X.env = (false, eval e X.env) :: starEach es X.env := by rfl) (hpl : (backTo pos (starEach es X.env)).any (·.1) = false := by rfl) : PE X (.Call (.Name x p) (e :: es) [] pos) (tC2 oc t) := by
  refine ⟨fun pins s σ H Q I h => ?_⟩
  refine wpAny_Call_Name_kw (ld_blt I hg hm hv ?_ hn hdb)
  exact PyProof.Rows.callWith_type1 (thn (ha.run pos pins s σ H _ I h) fun us s1 ⟨vs, H1, I1, r1, q1⟩ => hc pins s1 σ H1 vs us Q I1 r1 q1) he hpl
theorem pe_cf (hc : CallS X (.builtin id) oc) (hg : Gl X x) (hm : X.mg x = some (.builtin id)) (ha : PA X (e :: es) t) (hdb : (x == ("__debug__" : Str)) = false := by decide)
    (he : starEach (e :: es) X.env = (false, eval e X.env) :: starEach es X.env := by rfl) (hpl : (backTo pos (starEach es X.env)).any (·.1) = false := by rfl) : PE X (.Call (.Name x p) (e :: es) [] pos) (tC2 oc t) := by
  refine ⟨fun pins s σ H Q I h => ?_⟩
  refine wpAny_Call_Name_kw (ld_glob I hg hm ?_ hdb)
  exact PyProof.Rows.callWith_builtin1 (thn (ha.run pos pins s σ H _ I h) fun us s1 ⟨vs, H1, I1, r1, q1⟩ => hc pins s1 σ H1 vs us Q I1 r1 q1) he hpl
end
end DL
set_option Elab.async false
set_option linter.all false
set_option maxRecDepth 100000
/-! DL3: promises over trees; defs, methods, classes called; bodies. -/
namespace DL
open PySem PySem.Spec L2
open PyProof.Rows hiding St

/-- a promise over trees: the arguments, what lies mutable, what is wanted of the answer, of an exception -/
abbrev SpecD := List D → Mu → KT → (Ex → Mu → Prop) → Prop
def GoX (m : Mu) (H : Hp) (E : Ex → Mu → Prop) (F : XK) : Prop := ∀ x m' cls dd H', Stp (dom m) H (dom m') H' → MutR m' H' → RepX (dom m') H' x cls dd → E x m' → F cls dd H'
def spD (n : Nat) (S : SpecD) : Sp := fun vs H Q F => ∃ ds m K E, ds.length = n ∧ Reps (dom m) H ds vs ∧ MutR m H ∧ S ds m K E ∧ Go m H K Q ∧ GoX m H E F
/-- the world of a law: its program, what the top has written -/
structure Gx where
  P : Program
  w : World
  K : PySem.W.Frag
  mg : Str → Option Value
  base : Heap
abbrev Gx.of (X : Cx) : Gx := ⟨X.prog, X.w, X.K, X.mg, X.base⟩
/-- constants handed in as defaults -/
def ofD : D → V
  | .int i => .int i
  | .bl b => .bl b
  | .str x => .str x
  | .ref a => .ref a
  | .ty n => .ty n
  | _ => .non
def isC : D → Bool
  | .int _ => true
  | .bl _ => true
  | .str _ => true
  | .ref _ => true
  | .ty _ => true
  | .non => true
  | _ => false
theorem rep_c {M : Addr → Prop} {H : Hp} : ∀ {d : D}, isC d = true → Rep M H d (ofD d)
  | .non, _ => .non
  | .bl b, _ => .bl b
  | .int i, _ => .int i
  | .str x, _ => .str x
  | .ty n, _ => .ty n
  | .ref a, _ => .ref a
  | .tup _, h => by cases h
  | .lst _, h => by cases h
  | .dic _, h => by cases h
  | .ins _ _ _, h => by cases h
  | .exc _ _ _ _ _, h => by cases h
theorem reps_c {M : Addr → Prop} {H : Hp} : ∀ {ds : List D}, ds.all isC = true → Reps M H ds (ds.map ofD)
  | [], _ => .nil
  | d :: ds, h => by
    rw [List.all_cons, Bool.and_eq_true] at h
    exact .cons (rep_c h.1) (reps_c h.2)
/-- a def that stands at f: n parameters, defaults dd -/
structure Fnx (G : Gx) (k : Nat) (f : Addr) (n : Nat) (S : SpecD) (dd : List D) : Prop where
  ex : ∃ (fd : FuncData) (ps : List Str) (ds : List Value), FnOk G.P G.w G.K G.mg G.base (L2N.CX G.P G.w) k f fd ps (spD n S) ∧ Binds G.K fd ps ds ∧ Vals (dd.map ofD) ds
  cs : dd.all isC = true
structure Cal (G : Gx) (k : Nat) (x : Str) (n : Nat) (S : SpecD) (dd : List D) : Prop where
  ex : ∃ f, Fnx G k f n S dd ∧ G.mg x = some (.ref f) ∧ PySem.W.keepIn G.K (.ref f) = true
/-- a method mt of the class at C, whose instances have the fields ns -/
structure Met (G : Gx) (k : Nat) (C : Addr) (ns : List Str) (mt : Str) (n : Nat) (S : SpecD) (dd : List D) : Prop where
  ex : ∃ f, Fnx G k f n S dd ∧ Meth G.K C mt f
  cl : Cls G.K C
  no : ns.contains mt = false
structure Mak (G : Gx) (k : Nat) (x : Str) (C : Addr) (n : Nat) (S : SpecD) (dd : List D) : Prop where
  ex : ∃ f, Fnx G k f n S dd ∧ Mk G.K C f
  mgC : G.mg x = some (.ref C)

section
variable {X : Cx} {W : WX} {E : ET} {r : Rho} {m : Mu} {K : KT} {S : SpecD} {x mt : Str} {k j n : Nat} {dd : List D} {e o : Expr} {es : List Expr} {t : TA} {to : TE} {p pos apos : Pos} {C : Addr} {ns : List Str}

/-! ### a def by its name -/
def tCl (n : Nat) (S : SpecD) (dd : List D) (W : WX) (t : TA) : TE := tCallSD (spD n S) (dd.map ofD) (WE W) t
theorem pe_cl (c : Cal (Gx.of X) k x n S dd) (hr : Room j X.A) (hk : k ≤ j) (tk : L2N.Takes X W) (hg : Gl X x) (ha : PA X (e :: es) t)
    (hdb : (x == ("__debug__" : Str)) = false := by decide) (he : starEach (e :: es) X.env = (false, eval e X.env) :: starEach es X.env := by rfl) (hpl : (backTo pos (starEach es X.env)).any (·.1) = false := by rfl) :
    PE X (.Call (.Name x p) (e :: es) [] pos) (tCl n S dd W t) := by
  obtain ⟨f, ⟨⟨fd, ps, ds, F, b, d⟩, cs⟩, hm, kp⟩ := c.ex
  exact pe_callSD F (hr.mono hk) hg hm kp b d (L2N.passAt tk) ha hdb he hpl
theorem spD_of {ds : List D} {vs : List V} {m1 : Mu} {H1 : Hp} {Q : VK} {s : L2.St} {F : Ex → Mu → Prop} (hn : ds.length = n) (e : EnvR r m1 s H1) (z : Rz W E m1 H1) (g : Go m1 H1 K Q) (rs : Reps (dom m1) H1 ds vs)
    (h : S ds m1 K F) (hF : ∀ x m', F x m' → E x r m') : spD n S vs H1 Q (WE W s) :=
  ⟨ds, m1, K, F, hn, rs, e.mu, h, g, fun x m' cls dd H' a b c q => z x r m' cls dd s H' a (e.step a b) c (hF x m' q)⟩
theorem we_cl (cs : dd.all isC = true) (h : Wa W E t r m fun ds m1 => (ds ++ dd).length = n ∧ S (ds ++ dd) m1 K fun x m' => E x r m') : We W E (tCl n S dd W t) r m K := fun s H Q e z g =>
  h s H _ e z fun ds m1 vs H1 st mu rs q => spD_of q.1 (e.step st mu) (z.step st) (g.step st) (rs.append (reps_c cs)) q.2 fun _ _ q => q

/-! ### a method of an instance -/
def tMt (G : Gx) (j : Nat) (W : WX) (mt : Str) (to : TE) (t : TA) : TE := fun σ H Q => to σ H fun x H1 => ∃ (a C dx : Addr) (fs : List (Str × V)) (k n : Nat) (ns : List Str) (S : SpecD) (dd : List D), x = .ref a ∧ H1 a = some (.ins C dx fs) ∧ fs.lookup mt = none ∧ k ≤ j ∧ Met G k C ns mt n S dd ∧
  t σ H1 fun vs H2 => spD n S (x :: (vs ++ dd.map ofD)) H2 Q (WE W σ)
theorem pe_mth {pl : Sem Bool} (hr : Room j X.A) (tk : L2N.Takes X W) (he : PE X o to) (ha : PA X (e :: es) t)
    (hst : starEach (e :: es) X.env = (false, eval e X.env) :: starEach es X.env := by rfl) (hpl : (backTo pos (starEach es X.env)).any (·.1) = false := by rfl)
    (ht : eval (.Call (.Attribute o mt apos) (e :: es) [] pos) X.env = (do
      let ov ← eval o X.env
      standAt apos.atName
      let (f, first) ← holding [ov] (getMethod ov mt pl)
      callWith pos f first (backTo pos (starEach (e :: es) X.env)) (backToKw pos (keywordEach [] X.env))) := by rfl) :
    PE X (.Call (.Attribute o mt apos) (e :: es) [] pos) (tMt (Gx.of X) j W mt to t) := by
  refine ⟨fun pins s σ H Q I h => ?_⟩
  refine PySem.W.methodCall_KW (pl := pl) (thn (he.run pins s σ H _ I h) fun u s1 ⟨x, H1, I1, rx, a, C, dx, fs, k, n, ns, S, dd, ex, ea, l, hk, M, q⟩ => ?_) ht
  subst ex
  obtain rfl : u = Value.ref a := rx
  obtain ⟨f, ⟨⟨fd, ps, ds, F, b, d⟩, cs⟩, hm⟩ := M.ex
  refine getmeth_ok I1 ea M.cl hm l ?_
  refine PySem.W.callWith_K (first := [.ref a]) (h₀ := X.base) I.ok.mod.kin hm.kp (thn (ha.run pos pins s1 σ H1 _ I1 q) fun us s2 ⟨vs, H2, I2, rr, q2⟩ => ⟨I2.kIn, ?_⟩) hst hpl
  exact run_fnSD (E := WE W) (us := .ref a :: us) (vs := .ref a :: vs) F (hr.mono hk) b d (L2N.passAt tk σ) I2 (.cons rfl rr) q2
theorem pe_mth0 {pl : Sem Bool} (hr : Room j X.A) (tk : L2N.Takes X W) (he : PE X o to)
    (ht : eval (.Call (.Attribute o mt apos) [] [] pos) X.env = (do
      let ov ← eval o X.env
      standAt apos.atName
      let (f, first) ← holding [ov] (getMethod ov mt pl)
      callWith pos f first (backTo pos (starEach [] X.env)) (backToKw pos (keywordEach [] X.env))) := by rfl) :
    PE X (.Call (.Attribute o mt apos) [] [] pos) (tMt (Gx.of X) j W mt to tNil) := by
  refine ⟨fun pins s σ H Q I h => ?_⟩
  refine PySem.W.methodCall_KW (pl := pl) (thn (he.run pins s σ H _ I h) fun u s1 ⟨x, H1, I1, rx, a, C, dx, fs, k, n, ns, S, dd, ex, ea, l, hk, M, q⟩ => ?_) ht
  subst ex
  obtain rfl : u = Value.ref a := rx
  obtain ⟨f, ⟨⟨fd, ps, ds, F, b, d⟩, cs⟩, hm⟩ := M.ex
  refine getmeth_ok I1 ea M.cl hm l ?_
  exact PySem.W.callWith_K0 (first := [.ref a]) I1.kIn hm.kp (run_fnSD (E := WE W) (us := [.ref a]) (vs := [.ref a]) F (hr.mono hk) b d (L2N.passAt tk σ) I1 (.cons rfl .nil) q)
/-- the instance that a tree is -/
inductive InsD : D → Mu → Addr → List Str → Prop
  | fixed {m : Mu} {C : Addr} {ns : List Str} {ds : List D} : InsD (.ins C ns ds) m C ns
  | mutb {m : Mu} {C a : Addr} {ns : List Str} {ds : List D} (h : At m a (.ins C ns ds)) : InsD (.ref a) m C ns
theorem InsD.look {d : D} {m : Mu} {C : Addr} {ns : List Str} {H : Hp} {v : V} (i : InsD d m C ns) (mu : MutR m H) (rp : Rep (dom m) H d v) : ∃ a dx gs ds, v = .ref a ∧ H a = some (.ins C dx gs) ∧ RepF (dom m) H ns ds gs := by
  cases i with
  | fixed =>
    cases rp with
    | ins mm h rf => exact ⟨_, _, _, _, rfl, h, rf⟩
  | mutb h =>
    cases rp
    have q := h.rep mu
    cases q with
    | ins h rf => exact ⟨_, _, _, _, rfl, h, rf⟩
theorem we_mt {G : Gx} (h : We W E to r m fun d m1 => ∃ (k n : Nat) (C : Addr) (ns : List Str) (S : SpecD) (dd : List D), Met G k C ns mt n S dd ∧ dd.all isC = true ∧ k ≤ j ∧ InsD d m1 C ns ∧
    Wa W E t r m1 fun ds m2 => (d :: (ds ++ dd)).length = n ∧ S (d :: (ds ++ dd)) m2 K fun x m' => E x r m') : We W E (tMt G j W mt to t) r m K := fun s H Q e z g =>
  h s H _ e z fun d m1 v H1 st mu rd q => by
    obtain ⟨k, n, C, ns, S, dd, M, cs, hk, i, q⟩ := q
    obtain ⟨a, dx, gs, ds', rfl, ha, rf⟩ := i.look mu rd
    refine ⟨a, C, dx, gs, k, n, ns, S, dd, rfl, ha, rf.no M.no, hk, M, ?_⟩
    refine q s H1 _ (e.step st mu) (z.step st) fun ds m2 vs H2 st2 mu2 rs q2 => ?_
    exact spD_of q2.1 ((e.step st mu).step st2 mu2) ((z.step st).step st2) ((g.step st).step st2) (.cons (rd.mono st2) (rs.append (reps_c cs))) q2.2 fun _ _ q => q

/-! ### a class by its name -/
theorem run_makeS {CX : CXT} {k : Nat} {C f : Addr} {fd : FuncData} {ps : List Str} {sp : Sp} {ds : List Value} {dvs : List V} {E : L2.St → XK} {pins : List (Addr × Obj)} {σ : L2.St} {H : Hp} {s : Shared} {Q : VK} {us : List Value} {vs : List V} (M : Mk X.K C f) (F : FnOk X.prog X.w X.K X.mg X.base CX k f fd ps sp) (hr : Room (k + 1) X.A) (hb : Binds X.K fd ps ds) (hd : Vals dvs ds)
    (hx : PassesAt CX X σ (E σ)) (I : Inv X pins σ H s) (r : Vals vs us)
    (h : ∀ x dx, H x = none → H dx = none → dx ≠ x → sp (.ref x :: (vs ++ dvs)) (upd (upd H dx (.own x)) x (.ins C dx [])) (fun v H2 => v = .non ∧ Q (.ref x) H2) (E σ)) :
    wpAny (model X.prog X.w) X.A (call (.ref C) us) (EP X pins σ Q) X.xe s := by
  have hq := h (s.heap.objs.size + 1) s.heap.objs.size (I.hok.fresh (Nat.le_succ _)) (I.hok.fresh (Nat.le_refl _)) (Nat.ne_of_lt (Nat.lt_succ_self _))
  have I2 := Inv.made (C := C) I
  have r2 : Vals (V.ref (s.heap.objs.size + 1) :: (vs ++ dvs)) (Value.ref (s.heap.objs.size + 1) :: (us ++ ds)) := .cons rfl (r.append hd)
  have hl : (Value.ref (s.heap.objs.size + 1) :: us ++ ds).length = ps.length := by
    have e := r2.length
    rw [F.len _ _ _ _ hq] at e
    exact e.symm
  refine wpAny_call (make_map (f := f) I.kIn M.makes M.init (beq_iff_eq.mp M.fn) (codeAny_mono (F.run _ X.stack _ _ ⟨Value.ref (s.heap.objs.size + 1) :: us, []⟩ (Value.ref (s.heap.objs.size + 1) :: (us ++ ds)) _ _ (E σ) (hr.make C us [])
    (I2.env0.make C us []) (hb _ (Value.ref (s.heap.objs.size + 1) :: us) I2.kIn hl) r2 hq) fun r s' hq' => ?_))
  cases r with
  | error e => exact hx pins _ _ e s' I2 hq'
  | ok fl =>
    cases fl with
    | ret u =>
      obtain ⟨v, H', I3, rv, ev, q3⟩ := I2.after hq'
      subst ev
      exact ⟨rv, ⟨V.ref (s.heap.objs.size + 1), H', I3, rfl, q3⟩⟩
    | next => exact False.elim hq'
    | brk => exact False.elim hq'
    | cont => exact False.elim hq'
def tMk (C : Addr) (n : Nat) (S : SpecD) (dd : List D) (W : WX) (t : TA) : TE := fun σ H Q => t σ H fun vs H1 => ∀ x dx, H1 x = none → H1 dx = none → dx ≠ x →
  spD n S (.ref x :: (vs ++ dd.map ofD)) (upd (upd H1 dx (.own x)) x (.ins C dx [])) (fun v H2 => v = .non ∧ Q (.ref x) H2) (WE W σ)
theorem pe_mak (c : Mak (Gx.of X) k x C n S dd) (hr : Room j X.A) (hk : k + 1 ≤ j) (tk : L2N.Takes X W) (hg : Gl X x) (ha : PA X (e :: es) t)
    (hdb : (x == ("__debug__" : Str)) = false := by decide) (he : starEach (e :: es) X.env = (false, eval e X.env) :: starEach es X.env := by rfl) (hpl : (backTo pos (starEach es X.env)).any (·.1) = false := by rfl) :
    PE X (.Call (.Name x p) (e :: es) [] pos) (tMk C n S dd W t) := by
  obtain ⟨f, ⟨⟨fd, ps, ds, F, b, d⟩, cs⟩, M⟩ := c.ex
  refine ⟨fun pins s σ H Q I h => ?_⟩
  refine wpAny_Call_Name_kw (ld_glob I hg c.mgC ?_ hdb)
  refine PySem.W.callWith_K (h₀ := X.base) I.ok.mod.kin M.kp (thn (ha.run pos pins s σ H _ I h) fun us s1 ⟨vs, H1, I1, r, q⟩ => ⟨I1.kIn, ?_⟩) he hpl
  exact run_makeS (E := WE W) M F (hr.mono hk) b d (L2N.passAt tk σ) I1 r q
theorem pe_mak0 (c : Mak (Gx.of X) k x C n S dd) (hr : Room j X.A) (hk : k + 1 ≤ j) (tk : L2N.Takes X W) (hg : Gl X x) (hdb : (x == ("__debug__" : Str)) = false := by decide) :
    PE X (.Call (.Name x p) [] [] pos) (tMk C n S dd W tNil) := by
  obtain ⟨f, ⟨⟨fd, ps, ds, F, b, d⟩, cs⟩, M⟩ := c.ex
  refine ⟨fun pins s σ H Q I h => ?_⟩
  refine wpAny_Call_Name_kw (ld_glob I hg c.mgC ?_ hdb)
  exact PySem.W.callWith_K0 I.kIn M.kp (run_makeS (E := WE W) (us := []) M F (hr.mono hk) b d (L2N.passAt tk σ) I .nil h)
/-- a new instance that stays as __init__ leaves it -/
theorem we_mk (cs : dd.all isC = true) (h : Wa W E t r m fun ds m1 => (ds ++ dd).length + 1 = n ∧ ∀ x, ¬ dom m1 x →
    S (.ref x :: (ds ++ dd)) ((x, .ins C [] []) :: m1) (fun d m2 => ∃ ns fs, d = .non ∧ m2 = (x, .ins C ns fs) :: m1 ∧ K (.ins C ns fs) m1) fun ex m2 => ∃ o, m2 = (x, o) :: m1 ∧ E ex r m1) : We W E (tMk C n S dd W t) r m K := fun s H Q e z g =>
  h s H _ e z fun ds m1 vs H1 st mu rs q x dx hx hdx hne => by
    have hn1 : upd H1 dx (.own x) x = none := by rw [upd_ne (Ne.symm hne)]; exact hx
    have s1 : Stp (dom m1) H1 (dom m1) (upd H1 dx (.own x)) := Stp.new hdx
    have mu1 : MutR m1 (upd H1 dx (.own x)) := mu.new hdx
    have s2 : Stp (dom m1) (upd H1 dx (.own x)) (dom ((x, .ins C [] []) :: m1)) (upd (upd H1 dx (.own x)) x (.ins C dx [])) := Stp.newM hn1
    have mu2 : MutR ((x, .ins C [] []) :: m1) (upd (upd H1 dx (.own x)) x (.ins C dx [])) := mu1.newM hn1 (.ins upd_same .nil)
    have nd : ¬ dom m1 x := mu2.notin
    refine ⟨.ref x :: (ds ++ dd), _, _, _, by rw [List.length_cons]; exact q.1, .cons (.ref x) ((rs.append (reps_c cs)).mono (s1.trans s2)), mu2, q.2 x nd, ?_, ?_⟩
    · rintro d m' v H' a b c ⟨ns, fs, rfl, rfl, k⟩
      cases c
      refine ⟨rfl, ?_⟩
      have at1 := (At.head (m := m1) (p := x) (o := .ins C ns fs)).rep b
      have ls : Stp (dom ((x, MO.ins C ns fs) :: m1)) H' (dom m1) H' := Stp.less fun a z => dom_cons.mpr (.inr z)
      cases at1 with
      | ins hh rf => exact g _ m1 _ H' (st.trans ((s1.trans s2).trans (a.trans ls))) b.drop (.ins nd hh (rf.mono ls)) k
    · rintro ex m' cls dd' H' a b c ⟨o, rfl, k⟩
      have ls : Stp (dom ((x, o) :: m1)) H' (dom m1) H' := Stp.less fun a z => dom_cons.mpr (.inr z)
      have tot := st.trans ((s1.trans s2).trans (a.trans ls))
      exact z ex r m1 cls dd' s H' tot (e.step tot b.drop) (c.mono ls) k
end

/-! ### bodies -/
abbrev cxG (G : Gx) (N : List Str) (qual : Str) (st : Stmt) (f : Addr) (cdv : Value) (A : Around) (outer : List Env) (s : Shared) (H : Hp) (F : XK) : Cx := cxOf (L2N.CX G.P G.w) G.P G.w G.K G.mg G.base N qual (defScope st) f cdv A outer s H F
abbrev wF (F : XK) : WX := fun cls d _ H => F cls d H
abbrev eF (E : Ex → Mu → Prop) : ET := fun x _ m => E x m
abbrev pF (K : KT) : DEnds := { nx := fun _ m => K .non m, rt := K }
/-- a promise is kept by the body of the def -/
abbrev FunW (K : PySem.W.Frag) (x qual : Str) (st : Stmt) (dvs : List V) (f : Addr) (fd : FuncData) : Prop := FunD K x qual (defArgs st) (defBody st) (defScope st) dvs [] f fd
theorem funW_of {K : PySem.W.Frag} {x qual : Str} {st : Stmt} {f : Addr} {fd : FuncData} (F : L2.Fun K x qual st f fd) : FunW K x qual st [] f fd := by
  have kp := F.kp
  obtain ⟨oc, od, kV, doc, pm, an, cdv, ct, osl, rfl, lk, hcd⟩ := F.ex
  exact ⟨⟨oc, od, _, kV, doc, pm, an, cdv, ct, osl, rfl, lk, hcd, .inl ⟨rfl, rfl⟩, .inl rfl⟩, kp⟩
theorem fnok_ofD {G : Gx} {xn qual : Str} {st : Stmt} {f : Addr} {fd : FuncData} {N ps : List Str} {k n : Nat} {S : SpecD} {dvs : List V} (F : FunW G.K xn qual st dvs f fd) (Sc : FnScope N ps (defScope st)) (hn : ps.length = n)
    (h : ∀ (cdv : Value) (A : Around) (outer : List Env) (s : Shared) (H : Hp) (F : XK), Room k (cxG G N qual st f cdv A outer s H F).A → L2N.Takes (cxG G N qual st f cdv A outer s H F) (wF F) →
      ∃ t, PSs (cxG G N qual st f cdv A outer s H F) (defBody st) t ∧ ∀ ds m K E, ds.length = n → S ds m K E → Ws (wF F) (eF E) t (ds.map some ++ List.replicate (N.length - n) none) m (pF K)) : FnOk G.P G.w G.K G.mg G.base (L2N.CX G.P G.w) (k + 1) f fd ps (spD n S) := by
  obtain ⟨oc, od, dV, kV, doc, pm, an, cdv, ct, osl, rfl, lk, hcd, _, _⟩ := F.ex
  refine fn_of lk hcd Sc (fun vs H Q E q => ?_) (fun A outer s H vs Q E hr q => ?_)
  · obtain ⟨ds, m, K, E, h1, h2, _⟩ := q
    rw [← h2.length, h1, hn]
  · obtain ⟨ds, m, K, E', h1, h2, mu, hs, g, gx⟩ := q
    obtain ⟨t, ht, hw⟩ := h cdv A outer s H E hr (L2N.takes_of rfl rfl rfl rfl)
    refine ⟨t, ht, hw ds m K E' h1 hs _ H _ ⟨?_, mu⟩ ?_ ?_⟩
    · have e : vs.length = n := by rw [← h2.length, h1]
      unfold L2.start
      rw [e]
      exact ROs.start _ h2
    · intro x r' m' cls dd s' H' a b c q
      exact gx x m' cls dd H' a b.mu c q
    · exact ⟨fun r' m' s' H' a b q => g _ m' _ H' a b.mu .non q, fun d m' v H' a b c q => g d m' v H' a b c q, fun _ _ _ _ _ _ q => q, fun _ _ _ _ _ _ q => q⟩
theorem fnok_of {G : Gx} {xn qual : Str} {st : Stmt} {f : Addr} {fd : FuncData} {N ps : List Str} {k n : Nat} {S : SpecD} (F : L2.Fun G.K xn qual st f fd) (Sc : FnScope N ps (defScope st)) (hn : ps.length = n)
    (h : ∀ (cdv : Value) (A : Around) (outer : List Env) (s : Shared) (H : Hp) (F : XK), Room k (cxG G N qual st f cdv A outer s H F).A → L2N.Takes (cxG G N qual st f cdv A outer s H F) (wF F) →
      ∃ t, PSs (cxG G N qual st f cdv A outer s H F) (defBody st) t ∧ ∀ ds m K E, ds.length = n → S ds m K E → Ws (wF F) (eF E) t (ds.map some ++ List.replicate (N.length - n) none) m (pF K)) : FnOk G.P G.w G.K G.mg G.base (L2N.CX G.P G.w) (k + 1) f fd ps (spD n S) := fnok_ofD (funW_of F) Sc hn h
theorem fnx_ofD {G : Gx} {xn qual : Str} {st : Stmt} {f : Addr} {fd : FuncData} {N ps : List Str} {k n : Nat} {S : SpecD} {dvs : List V} {dd : List D} {ds : List Value} (F : FunW G.K xn qual st dvs f fd) (Sc : FnScope N ps (defScope st)) (hn : ps.length = n)
    (b : Binds G.K fd ps ds) (d : Vals (dd.map ofD) ds) (cs : dd.all isC = true)
    (h : ∀ (cdv : Value) (A : Around) (outer : List Env) (s : Shared) (H : Hp) (F : XK), Room k (cxG G N qual st f cdv A outer s H F).A → L2N.Takes (cxG G N qual st f cdv A outer s H F) (wF F) →
      ∃ t, PSs (cxG G N qual st f cdv A outer s H F) (defBody st) t ∧ ∀ ds m K E, ds.length = n → S ds m K E → Ws (wF F) (eF E) t (ds.map some ++ List.replicate (N.length - n) none) m (pF K)) : Fnx G (k + 1) f n S dd := ⟨⟨_, ps, ds, fnok_ofD F Sc hn h, b, d⟩, cs⟩
theorem fnx_of {G : Gx} {xn qual : Str} {st : Stmt} {f : Addr} {fd : FuncData} {N ps : List Str} {k n : Nat} {S : SpecD} {dd : List D} {ds : List Value} (F : L2.Fun G.K xn qual st f fd) (Sc : FnScope N ps (defScope st)) (hn : ps.length = n)
    (b : Binds G.K fd ps ds) (d : Vals (dd.map ofD) ds) (cs : dd.all isC = true)
    (h : ∀ (cdv : Value) (A : Around) (outer : List Env) (s : Shared) (H : Hp) (F : XK), Room k (cxG G N qual st f cdv A outer s H F).A → L2N.Takes (cxG G N qual st f cdv A outer s H F) (wF F) →
      ∃ t, PSs (cxG G N qual st f cdv A outer s H F) (defBody st) t ∧ ∀ ds m K E, ds.length = n → S ds m K E → Ws (wF F) (eF E) t (ds.map some ++ List.replicate (N.length - n) none) m (pF K)) : Fnx G (k + 1) f n S dd := fnx_ofD (funW_of F) Sc hn b d cs h
/-! ### defs called within an except suite: nothing is raised -/
structure CalH (G : Gx) (k : Nat) (x : Str) (n : Nat) (S : SpecD) : Prop where
  ex : ∃ (f : Addr) (fd : FuncData) (ps : List Str), L2H.FnH G.P G.w G.K G.mg G.base (L2N.CX G.P G.w) k f fd ps (spD n S) ∧ Binds G.K fd ps [] ∧ G.mg x = some (.ref f) ∧ PySem.W.keepIn G.K (.ref f) = true
abbrev cxGH (G : Gx) (N : List Str) (qual : Str) (st : Stmt) (f : Addr) (cdv : Value) (A : Around) (outer : List Env) (s : Shared) (H : Hp) (F : XK) (p : Addr × Obj) : Cx := L2H.cxH (L2N.CX G.P G.w) G.P G.w G.K G.mg G.base N qual (defScope st) f cdv A outer s H F p
theorem calH_of {G : Gx} {x : Str} {st : Stmt} {f : Addr} {fd : FuncData} {N ps : List Str} {k n : Nat} {S : SpecD} (F : L2.Fun G.K x x st f fd) (hm : G.mg x = some (.ref f)) (Sc : FnScope N ps (defScope st)) (hn : ps.length = n)
    (b : Binds G.K fd ps [])
    (h : ∀ (cdv : Value) (A : Around) (outer : List Env) (s : Shared) (H : Hp) (F : XK) (p : Addr × Obj), L2H.Hot1 A p → L2H.RoomH k (cxGH G N x st f cdv A outer s H F p).A → L2N.Takes (cxGH G N x st f cdv A outer s H F p) (wF F) →
      ∃ t, PSs (cxGH G N x st f cdv A outer s H F p) (defBody st) t ∧ ∀ ds m K E, ds.length = n → S ds m K E → Ws (wF F) (eF E) t (ds.map some ++ List.replicate (N.length - n) none) m (pF K)) : CalH G (k + 1) x n S := by
  have kp := F.kp
  obtain ⟨oc, od, kV, doc, pm, an, cdv, ct, osl, rfl, lk, hcd⟩ := F.ex
  refine ⟨f, _, ps, L2H.fn_ofH lk hcd Sc (fun vs H Q E q => ?_) (fun A outer s H vs Q E p hot hr q => ?_), b, hm, kp⟩
  · obtain ⟨ds, m, K, E, h1, h2, _⟩ := q
    rw [← h2.length, h1, hn]
  · obtain ⟨ds, m, K, E', h1, h2, mu, hs, g, gx⟩ := q
    obtain ⟨t, ht, hw⟩ := h cdv A outer s H E p hot hr (L2N.takes_of rfl rfl rfl rfl)
    refine ⟨t, ht, hw ds m K E' h1 hs _ H _ ⟨?_, mu⟩ ?_ ?_⟩
    · have e : vs.length = n := by rw [← h2.length, h1]
      unfold L2.start
      rw [e]
      exact ROs.start _ h2
    · intro x r' m' cls dd s' H' a b c q
      exact gx x m' cls dd H' a b.mu c q
    · exact ⟨fun r' m' s' H' a b q => g _ m' _ H' a b.mu .non q, fun d m' v H' a b c q => g d m' v H' a b c q, fun _ _ _ _ _ _ q => q, fun _ _ _ _ _ _ q => q⟩
section
variable {X : Cx} {W : WX} {E : ET} {r : Rho} {m : Mu} {K : KT} {S : SpecD} {x : Str} {k j n : Nat} {e : Expr} {es : List Expr} {t : TA} {p pos : Pos}
def tClH (n : Nat) (S : SpecD) (W : WX) (t : TA) : TE := tCallS (spD n S) (WE W) t
theorem pe_clH (c : CalH (Gx.of X) k x n S) (hr : L2H.RoomH j X.A) (hk : k ≤ j) (hc : L2H.HotC X) (tk : L2N.Takes X W) (hg : Gl X x) (ha : PA X (e :: es) t)
    (hdb : (x == ("__debug__" : Str)) = false := by decide) (he : starEach (e :: es) X.env = (false, eval e X.env) :: starEach es X.env := by rfl) (hpl : (backTo pos (starEach es X.env)).any (·.1) = false := by rfl) :
    PE X (.Call (.Name x p) (e :: es) [] pos) (tClH n S W t) := by
  obtain ⟨f, fd, ps, F, b, hm, kp⟩ := c.ex
  exact L2H.pe_callH F (hr.mono hk) hc hg hm kp b (L2N.passAt tk) ha hdb he hpl
theorem we_clH (h : Wa W E t r m fun ds m1 => ds.length = n ∧ S ds m1 K fun x m' => E x r m') : We W E (tClH n S W t) r m K := fun s H Q e z g =>
  h s H _ e z fun ds m1 vs H1 st mu rs q => spD_of q.1 (e.step st mu) (z.step st) (g.step st) rs q.2 fun _ _ q => q
end
end DL
set_option Elab.async false
set_option linter.all false
set_option maxRecDepth 100000
/-! DL4: operators. -/
namespace DL
open PySem PySem.Spec L2
open PyProof.Rows hiding St

/-! ### an own class's operator -/
/-- the class at C takes the special method nm: n values, the promise S -/
structure Opr (G : Gx) (k : Nat) (C : Addr) (nm : Str) (n : Nat) (S : SpecD) : Prop where
  ex : ∃ f, Fnx G k f n S [] ∧ PySem.W.findIn G.K (.ref C) nm = some (some (.ref f)) ∧ PySem.W.isFn G.K (.ref f) = true
  cl : Cls G.K C
  sf : PySem.W.selfFirst G.K C = true
theorem back_of {X : Cx} {pins : List (Addr × Obj)} {σ : L2.St} {Q : VK} {u : Value} {s : Shared} (h : EP X pins σ Q u s) : PySem.W.CmpBack (EP X pins σ Q) u s := by
  obtain ⟨v, H, I, r, q⟩ := id h
  cases u <;> first | exact h | (cases v <;> first | (obtain ⟨t, e⟩ := r; cases e) | cases r)
section
variable {X : Cx} {W : WX} {j : Nat}
def oOwn2 (G : Gx) (j : Nat) (W : WX) (nm : Str) : O2 := fun x y σ H Q => ∃ (a b C dx dy : Addr) (fs gs : List (Str × V)) (k : Nat) (S : SpecD), x = .ref a ∧ y = .ref b ∧ H a = some (.ins C dx fs) ∧ H b = some (.ins C dy gs) ∧ k ≤ j ∧ Opr G k C nm 2 S ∧ spD 2 S [x, y] H Q (WE W σ)
theorem inst_of {pins : List (Addr × Obj)} {σ : L2.St} {H : Hp} {s : Shared} {a C dx : Addr} {fs : List (Str × V)} (I : Inv X pins σ H s) (e : H a = some (.ins C dx fs)) : ∃ od, PySem.W.InstAt s.heap a (PySem.W.instObj C dx) C od := by
  obtain ⟨mA, O, _⟩ := ins_get I.hok e
  obtain ⟨od, J, _⟩ := O.look
  exact ⟨_, J⟩
theorem os_own2 (hr : Room j X.A) (tk : L2N.Takes X W) {op : Operator} : OpS X (binaryOp op) (oOwn2 (Gx.of X) j W (PySem.dunder op.info.2)) := by
  intro pins s σ H x y u v Q I rx ry h
  obtain ⟨a, b, C, dx, dy, fs, gs, k, S, rfl, rfl, ha, hb, hk, O, q⟩ := h
  obtain rfl : u = Value.ref a := rx
  obtain rfl : v = Value.ref b := ry
  obtain ⟨f, ⟨⟨fd, ps, ds, F, bd, d⟩, cs⟩, h1, h2⟩ := O.ex
  obtain ⟨od, J⟩ := inst_of I ha
  obtain ⟨od', J'⟩ := inst_of I hb
  obtain ⟨m, fr⟩ := I.fr
  refine PySem.W.binop_K fr I.ok.mod.kin J J'.type O.sf h1 h2 ?_
  refine wpAny_mono (run_fnSD (E := WE W) (us := [.ref a, .ref b]) (vs := [.ref a, .ref b]) F (hr.mono hk) bd d (L2N.passAt tk σ) I (.cons rfl (.cons rfl .nil)) q) (fun r s' hq => back_of hq) fun _ _ z => z
def oOwn1 (G : Gx) (j : Nat) (W : WX) (nm : Str) : O1 := fun x σ H Q => ∃ (a C dx : Addr) (fs : List (Str × V)) (k : Nat) (S : SpecD), x = .ref a ∧ H a = some (.ins C dx fs) ∧ k ≤ j ∧ Opr G k C nm 1 S ∧ spD 1 S [x] H Q (WE W σ)
theorem us_own (hr : Room j X.A) (tk : L2N.Takes X W) : UnS X (unaryOp .USub) (oOwn1 (Gx.of X) j W "__neg__") := by
  intro pins s σ H x u Q I rx h
  obtain ⟨a, C, dx, fs, k, S, rfl, ha, hk, O, q⟩ := h
  obtain rfl : u = Value.ref a := rx
  obtain ⟨f, ⟨⟨fd, ps, ds, F, bd, d⟩, cs⟩, h1, h2⟩ := O.ex
  obtain ⟨od, J⟩ := inst_of I ha
  obtain ⟨m, fr⟩ := I.fr
  exact PySem.W.ksp_neg fr I.ok.mod.kin J h1 h2 (run_fnSD (E := WE W) (us := [.ref a]) (vs := [.ref a]) F (hr.mono hk) bd d (L2N.passAt tk σ) I (.cons rfl .nil) q)

/-! ### the operators as unions -/
def CDivX (i j : Int) : Prop := j ≠ 0 ∧ (j.natAbs.log2 < 9000 ∨ i.natAbs.log2 ≤ j.natAbs.log2 + 4000)
theorem CDivX.no {i j : Int} (h : CDivX i j) : Builtin.divisionGoesByPylong i j = false := by
  rcases h.2 with q | q
  · exact PyProof.noPylong_of_log2 q
  · have e : (j == 0) = false := by simpa using h.1
    have key : (if i == 0 then 0 else i.natAbs.log2 / 30 + 1) ≤ (if j == 0 then 0 else j.natAbs.log2 / 30 + 1) + 150 := by
      rw [e]
      by_cases hi : (i == 0) = true
      · rw [if_pos hi]
        exact Nat.zero_le _
      · rw [if_neg hi]
        show i.natAbs.log2 / 30 + 1 ≤ j.natAbs.log2 / 30 + 1 + 150
        omega
    show (_ && decide (_ > _)) = false
    rw [decide_eq_false (Nat.not_lt.mpr key), Bool.and_false]
theorem op_fdivX : OpR X (binaryOp .FloorDiv) (rI CDivX fun i j => .int (i.fdiv j)) := opI fun i j _ _ _ _ _ hc q => PyProof.Rows.floordiv_int hc.1 q (.inl hc.no)
def CMulX (i j : Int) : Prop := i.natAbs.log2 + j.natAbs.log2 < 100000000
theorem CMulX.ok {i j : Int} (h : CMulX i j) : IntMulOk i j := by
  have b : ∀ x : Int, Builtin.Int.intBits x ≤ x.natAbs.log2 + 1 := fun x => by
    unfold Builtin.Int.intBits
    split <;> omega
  have h1 := b i
  have h2 := b j
  have h3 : i.natAbs.log2 + j.natAbs.log2 < 100000000 := h
  have e : bitsLine = 134217728 := by decide
  unfold IntMulOk
  intro z
  rw [Bool.and_eq_true] at z
  have z2 := z.2
  unfold Builtin.Int.intTooBig at z2
  have z3 := of_decide_eq_true z2
  rw [e] at z3
  omega
theorem op_mulX : OpR X (binaryOp .Mult) (rI CMulX fun i j => .int (i * j)) := opI fun _ _ _ _ _ _ _ hc q => PyProof.Rows.mul_int q hc.ok
def rStrAdd : R2 := fun x y H Q => ∃ i j, x = .str i ∧ y = .str j ∧ i.length + j.length ≤ sizeLine ∧ Q (.str (i ++ j)) H
def oAdd (G : Gx) (j : Nat) (W : WX) : O2 := fun x y s H Q => rI0 (fun i j => .int (i + j)) x y H Q ∨ (rStrAdd x y H Q ∨ (rCat x y H Q ∨ (rCatT G.K x y H Q ∨ oOwn2 G j W "__add__" x y s H Q)))
theorem os_add (hr : Room j X.A) (tk : L2N.Takes X W) : OpS X (binaryOp .Add) (oAdd (Gx.of X) j W) := (OpS.of op_add).or ((OpS.of op_add_str).or ((OpS.of op_cat).or ((OpS.of op_catT).or (os_own2 hr tk))))
def oSub (G : Gx) (j : Nat) (W : WX) : O2 := fun x y s H Q => rI0 (fun i j => .int (i - j)) x y H Q ∨ oOwn2 G j W "__sub__" x y s H Q
theorem os_sub (hr : Room j X.A) (tk : L2N.Takes X W) : OpS X (binaryOp .Sub) (oSub (Gx.of X) j W) := (OpS.of op_sub).or (os_own2 hr tk)
def oMul (G : Gx) (j : Nat) (W : WX) : O2 := fun x y s H Q => rI CMulX (fun i j => .int (i * j)) x y H Q ∨ (rRep x y H Q ∨ oOwn2 G j W "__mul__" x y s H Q)
theorem os_mul (hr : Room j X.A) (tk : L2N.Takes X W) : OpS X (binaryOp .Mult) (oMul (Gx.of X) j W) := (OpS.of op_mulX).or ((OpS.of op_rep).or (os_own2 hr tk))
def oFdiv : O2 := fun x y _ H Q => rI CDivX (fun i j => .int (i.fdiv j)) x y H Q
theorem os_fdiv : OpS X (binaryOp .FloorDiv) oFdiv := OpS.of op_fdivX
def oMod : O2 := fun x y _ H Q => rI (fun _ j => j ≠ 0) (fun i j => .int (i.fmod j)) x y H Q
theorem os_mod : OpS X (binaryOp .Mod) oMod := OpS.of op_modN
def oPow : O2 := fun x y _ H Q => rI CPow (fun i j => .int (i ^ j.toNat)) x y H Q
theorem os_pow : OpS X (binaryOp .Pow) oPow := OpS.of op_pow
def oNeg (G : Gx) (j : Nat) (W : WX) : O1 := fun x s H Q => rU (fun i => .int (-i)) x H Q ∨ oOwn1 G j W "__neg__" x s H Q
theorem us_neg (hr : Room j X.A) (tk : L2N.Takes X W) : UnS X (unaryOp .USub) (oNeg (Gx.of X) j W) := (UnS.of un_neg).or (us_own hr tk)
/-! comparisons -/
def oLt : O2 := fun x y _ H Q => rI0 (fun i j => .bl (decide (i < j))) x y H Q
def oLe : O2 := fun x y _ H Q => rI0 (fun i j => .bl (decide (i ≤ j))) x y H Q
def oGt : O2 := fun x y _ H Q => rI0 (fun i j => .bl (decide (j < i))) x y H Q
def oGe : O2 := fun x y _ H Q => rI0 (fun i j => .bl (decide (j ≤ i))) x y H Q
theorem os_lt : OpS X (compareOp .Lt) oLt := OpS.of op_lt
theorem os_le : OpS X (compareOp .LtE) oLe := OpS.of op_le
theorem os_gt : OpS X (compareOp .Gt) oGt := OpS.of op_gt
theorem os_ge : OpS X (compareOp .GtE) oGe := OpS.of op_ge
def rIsN' : R2 := fun x y H Q => y = .non ∧ Q (.bl (decide (x = .non))) H
def rNotN' : R2 := fun x y H Q => y = .non ∧ Q (.bl (!decide (x = .non))) H
def oIs : O2 := fun x y _ H Q => rIsN' x y H Q ∨ rIsB x y H Q
def oIsNot : O2 := fun x y _ H Q => rNotN' x y H Q ∨ rNotB x y H Q
theorem os_is : OpS X (compareOp .Is) oIs := OpS.or (OpS.of op_isN) (OpS.of op_isBl)
theorem os_isnot : OpS X (compareOp .IsNot) oIsNot := OpS.or (OpS.of op_notN) (OpS.of op_notBl)
def oEq (G : Gx) (j : Nat) (W : WX) : O2 := fun x y _ H Q => rEq x y H Q
def oNe (G : Gx) (j : Nat) (W : WX) : O2 := fun x y _ H Q => rNe x y H Q
theorem os_eq (hr : Room j X.A) (tk : L2N.Takes X W) : OpS X (compareOp .Eq) (oEq (Gx.of X) j W) := OpS.of op_eq
theorem os_ne (hr : Room j X.A) (tk : L2N.Takes X W) : OpS X (compareOp .NotEq) (oNe (Gx.of X) j W) := OpS.of op_ne
/-! .. within an except suite: numbers, texts alone -/
def oEqH : O2 := fun x y _ H Q => rEq x y H Q
def oNeH : O2 := fun x y _ H Q => rNe x y H Q
theorem os_eqH : OpS X (compareOp .Eq) oEqH := OpS.of op_eq
theorem os_neH : OpS X (compareOp .NotEq) oNeH := OpS.of op_ne
def oMulH : O2 := fun x y _ H Q => rI CMulX (fun i j => .int (i * j)) x y H Q
theorem os_mulH : OpS X (binaryOp .Mult) oMulH := OpS.of op_mulX
def oAddH : O2 := fun x y _ H Q => rI0 (fun i j => .int (i + j)) x y H Q
theorem os_addH : OpS X (binaryOp .Add) oAddH := OpS.of op_add
def oSubH : O2 := fun x y _ H Q => rI0 (fun i j => .int (i - j)) x y H Q
theorem os_subH : OpS X (binaryOp .Sub) oSubH := OpS.of op_sub
def oNegH : O1 := fun x _ H Q => rU (fun i => .int (-i)) x H Q
theorem us_negH : UnS X (unaryOp .USub) oNegH := UnS.of un_neg
end

/-! ### what they do to trees -/
section
variable {W : WX} {E : ET} {r : Rho} {m : Mu} {K : KT} {G : Gx} {j : Nat} {i k : Int} {te ta tb tc : TE} {t : TA} {o o' : O2} {o1 : O1} {oc : OC}
theorem w2_val {o : O2} {x y d : D} {vx vy v : V} (hx : ∀ M H w, Rep M H x w → w = vx) (hy : ∀ M H w, Rep M H y w → w = vy) (hd : ∀ M H, Rep M H d v) (ho : ∀ s H (Q : VK), Q v H → o vx vy s H Q) (k : K d m) : W2 W E o x y r m K := fun s H Q a b e z ra rb g => by
  rw [hx _ _ _ ra, hy _ _ _ rb]
  exact ho s H Q (g d m v H (Stp.refl _ _) e.mu (hd _ _) k)
theorem rint {M : Addr → Prop} {H : Hp} {i : Int} {w : V} (h : Rep M H (.int i) w) : w = .int i := by cases h; rfl
theorem rstr {M : Addr → Prop} {H : Hp} {i : Str} {w : V} (h : Rep M H (.str i) w) : w = .str i := by cases h; rfl
theorem rbl {M : Addr → Prop} {H : Hp} {i : Bool} {w : V} (h : Rep M H (.bl i) w) : w = .bl i := by cases h; rfl
theorem rnon {M : Addr → Prop} {H : Hp} {w : V} (h : Rep M H .non w) : w = .non := by cases h; rfl
theorem w2_add (h : K (.int (i + k)) m) : W2 W E (oAdd G j W) (.int i) (.int k) r m K := w2_val (fun _ _ _ => rint) (fun _ _ _ => rint) (fun _ _ => .int _) (fun _ _ _ q => .inl ⟨i, k, rfl, rfl, q⟩) h
theorem w2_sub (h : K (.int (i - k)) m) : W2 W E (oSub G j W) (.int i) (.int k) r m K := w2_val (fun _ _ _ => rint) (fun _ _ _ => rint) (fun _ _ => .int _) (fun _ _ _ q => .inl ⟨i, k, rfl, rfl, q⟩) h
theorem w2_mul (h : CMulX i k ∧ K (.int (i * k)) m) : W2 W E (oMul G j W) (.int i) (.int k) r m K := w2_val (fun _ _ _ => rint) (fun _ _ _ => rint) (fun _ _ => .int _) (fun _ _ _ q => .inl ⟨i, k, rfl, rfl, h.1, q⟩) h.2
theorem w2_fdiv (h : CDivX i k ∧ K (.int (i.fdiv k)) m) : W2 W E oFdiv (.int i) (.int k) r m K := w2_val (fun _ _ _ => rint) (fun _ _ _ => rint) (fun _ _ => .int _) (fun _ _ _ q => ⟨i, k, rfl, rfl, h.1, q⟩) h.2
theorem w2_mod (h : k ≠ 0 ∧ K (.int (i.fmod k)) m) : W2 W E oMod (.int i) (.int k) r m K := w2_val (fun _ _ _ => rint) (fun _ _ _ => rint) (fun _ _ => .int _) (fun _ _ _ q => ⟨i, k, rfl, rfl, h.1, q⟩) h.2
theorem w2_pow (h : CPow i k ∧ K (.int (i ^ k.toNat)) m) : W2 W E oPow (.int i) (.int k) r m K := w2_val (fun _ _ _ => rint) (fun _ _ _ => rint) (fun _ _ => .int _) (fun _ _ _ q => ⟨i, k, rfl, rfl, h.1, q⟩) h.2
theorem w2_lt (h : K (.bl (decide (i < k))) m) : W2 W E oLt (.int i) (.int k) r m K := w2_val (fun _ _ _ => rint) (fun _ _ _ => rint) (fun _ _ => .bl _) (fun _ _ _ q => ⟨i, k, rfl, rfl, q⟩) h
theorem w2_le (h : K (.bl (decide (i ≤ k))) m) : W2 W E oLe (.int i) (.int k) r m K := w2_val (fun _ _ _ => rint) (fun _ _ _ => rint) (fun _ _ => .bl _) (fun _ _ _ q => ⟨i, k, rfl, rfl, q⟩) h
theorem w2_gt (h : K (.bl (decide (k < i))) m) : W2 W E oGt (.int i) (.int k) r m K := w2_val (fun _ _ _ => rint) (fun _ _ _ => rint) (fun _ _ => .bl _) (fun _ _ _ q => ⟨i, k, rfl, rfl, q⟩) h
theorem w2_ge (h : K (.bl (decide (k ≤ i))) m) : W2 W E oGe (.int i) (.int k) r m K := w2_val (fun _ _ _ => rint) (fun _ _ _ => rint) (fun _ _ => .bl _) (fun _ _ _ q => ⟨i, k, rfl, rfl, q⟩) h
theorem w2_eqI (h : K (.bl (decide (i = k))) m) : W2 W E (oEq G j W) (.int i) (.int k) r m K := w2_val (fun _ _ _ => rint) (fun _ _ _ => rint) (fun _ _ => .bl _) (fun _ _ _ q => ⟨rfl, by rw [dec_int, ← Bool.beq_eq_decide_eq] at *; exact q⟩) h
theorem w2_neI (h : K (.bl (!decide (i = k))) m) : W2 W E (oNe G j W) (.int i) (.int k) r m K := w2_val (fun _ _ _ => rint) (fun _ _ _ => rint) (fun _ _ => .bl _) (fun _ _ _ q => ⟨rfl, by rw [dec_int, ← Bool.beq_eq_decide_eq] at *; exact q⟩) h
theorem w2_eqIH (h : K (.bl (decide (i = k))) m) : W2 W E oEqH (.int i) (.int k) r m K := w2_val (fun _ _ _ => rint) (fun _ _ _ => rint) (fun _ _ => .bl _) (fun _ _ _ q => ⟨rfl, by rw [dec_int, ← Bool.beq_eq_decide_eq] at *; exact q⟩) h
theorem w2_neIH (h : K (.bl (!decide (i = k))) m) : W2 W E oNeH (.int i) (.int k) r m K := w2_val (fun _ _ _ => rint) (fun _ _ _ => rint) (fun _ _ => .bl _) (fun _ _ _ q => ⟨rfl, by rw [dec_int, ← Bool.beq_eq_decide_eq] at *; exact q⟩) h
theorem w2_mulH (h : CMulX i k ∧ K (.int (i * k)) m) : W2 W E oMulH (.int i) (.int k) r m K := w2_val (fun _ _ _ => rint) (fun _ _ _ => rint) (fun _ _ => .int _) (fun _ _ _ q => ⟨i, k, rfl, rfl, h.1, q⟩) h.2
theorem w2_addH (h : K (.int (i + k)) m) : W2 W E oAddH (.int i) (.int k) r m K := w2_val (fun _ _ _ => rint) (fun _ _ _ => rint) (fun _ _ => .int _) (fun _ _ _ q => ⟨i, k, rfl, rfl, q⟩) h
theorem w2_subH (h : K (.int (i - k)) m) : W2 W E oSubH (.int i) (.int k) r m K := w2_val (fun _ _ _ => rint) (fun _ _ _ => rint) (fun _ _ => .int _) (fun _ _ _ q => ⟨i, k, rfl, rfl, q⟩) h
theorem w1_negH (h : K (.int (-i)) m) : W1 W E oNegH (.int i) r m K := fun s H Q v e z rv g => by
  cases rv
  exact ⟨i, rfl, g _ m _ H (Stp.refl _ _) e.mu (.int _) h⟩
def isNon : D → Bool
  | .non => true
  | _ => false
theorem rep_non {M : Addr → Prop} {H : Hp} {d : D} {v : V} (h : Rep M H d v) : decide (v = V.non) = isNon d := by
  cases h <;> rfl
theorem w2_isN {d : D} (h : K (.bl (isNon d)) m) : W2 W E oIs d .non r m K := fun s H Q a b e z ra rb g => by
  cases rb
  exact .inl ⟨rfl, g _ m _ H (Stp.refl _ _) e.mu (by rw [rep_non ra]; exact .bl _) h⟩
theorem w2_notN {d : D} (h : K (.bl (!isNon d)) m) : W2 W E oIsNot d .non r m K := fun s H Q a b e z ra rb g => by
  cases rb
  exact .inl ⟨rfl, g _ m _ H (Stp.refl _ _) e.mu (by rw [rep_non ra]; exact .bl _) h⟩
theorem w2_isB {a b : Bool} (h : K (.bl (decide (a = b))) m) : W2 W E oIs (.bl a) (.bl b) r m K := w2_val (fun _ _ _ => rbl) (fun _ _ _ => rbl) (fun _ _ => .bl _) (fun _ _ _ q => .inr ⟨a, b, rfl, rfl, q⟩) h
theorem w2_notB {a b : Bool} (h : K (.bl (!decide (a = b))) m) : W2 W E oIsNot (.bl a) (.bl b) r m K := w2_val (fun _ _ _ => rbl) (fun _ _ _ => rbl) (fun _ _ => .bl _) (fun _ _ _ q => .inr ⟨a, b, rfl, rfl, q⟩) h
theorem w1_neg (h : K (.int (-i)) m) : W1 W E (oNeg G j W) (.int i) r m K := fun s H Q v e z rv g => by
  cases rv
  exact .inl ⟨i, rfl, g _ m _ H (Stp.refl _ _) e.mu (.int _) h⟩
/-- the fields of an instance, fixed or mutable -/
inductive FldD : D → Mu → Addr → List Str → List D → Prop
  | fixed {m : Mu} {C : Addr} {ns : List Str} {ds : List D} : FldD (.ins C ns ds) m C ns ds
  | mutb {m : Mu} {C a : Addr} {ns : List Str} {ds : List D} (h : At m a (.ins C ns ds)) : FldD (.ref a) m C ns ds
theorem FldD.look {d : D} {m : Mu} {C : Addr} {ns : List Str} {ds : List D} {H : Hp} {v : V} (i : FldD d m C ns ds) (mu : MutR m H) (rp : Rep (dom m) H d v) : ∃ a dx gs, v = .ref a ∧ H a = some (.ins C dx gs) ∧ RepF (dom m) H ns ds gs := by
  cases i with
  | fixed =>
    cases rp with
    | ins mm h rf => exact ⟨_, _, _, rfl, h, rf⟩
  | mutb h =>
    cases rp
    have q := h.rep mu
    cases q with
    | ins h rf => exact ⟨_, _, _, rfl, h, rf⟩
theorem w2_own {d d' : D} {C : Addr} {ns ns' : List Str} {ds ds' : List D} {nm : Str} {k : Nat} {S : SpecD} (O : Opr G k C nm 2 S) (hk : k ≤ j) (i : FldD d m C ns ds) (i' : FldD d' m C ns' ds')
    (h : S [d, d'] m K fun x m' => E x r m') : W2 W E (oOwn2 G j W nm) d d' r m K := fun s H Q a b e z ra rb g => by
  obtain ⟨p, dx, gs, rfl, hp, _⟩ := i.look e.mu ra
  obtain ⟨p', dx', gs', rfl, hp', _⟩ := i'.look e.mu rb
  exact ⟨p, p', C, dx, dx', gs, gs', k, S, rfl, rfl, hp, hp', hk, O, spD_of rfl e z g (.cons ra (.cons rb .nil)) h fun _ _ q => q⟩
theorem w1_own {d : D} {C : Addr} {ns : List Str} {ds : List D} {nm : Str} {k : Nat} {S : SpecD} (O : Opr G k C nm 1 S) (hk : k ≤ j) (i : FldD d m C ns ds)
    (h : S [d] m K fun x m' => E x r m') : W1 W E (oOwn1 G j W nm) d r m K := fun s H Q a e z ra g => by
  obtain ⟨p, dx, gs, rfl, hp, _⟩ := i.look e.mu ra
  exact ⟨p, C, dx, gs, k, S, rfl, hp, hk, O, spD_of rfl e z g (.cons ra .nil) h fun _ _ q => q⟩
end
end DL
set_option Elab.async false
set_option linter.all false
set_option maxRecDepth 100000
/-! DL5: expressions, tests, statements, loops over trees. -/
namespace DL
open PySem PySem.Spec L2
open PyProof.Rows hiding St

section
variable {W : WX} {E : ET} {r : Rho} {m : Mu} {K : KT} {G : Gx} {j : Nat} {te ta tb tc : TE} {t u : TT} {a : TA} {o o' : O2} {o1 : O1} {oc : OC} {KB : Bool → Mu → Prop} {KA : List D → Mu → Prop}
/-! ### arguments, displays -/
theorem wa_nil (h : KA [] m) : Wa W E tNil r m KA := fun s H Q e z g => g [] m [] H (Stp.refl _ _) e.mu .nil h
theorem wa_cons (h : We W E te r m fun d m1 => Wa W E a r m1 fun ds m2 => KA (d :: ds) m2) : Wa W E (tCons te a) r m KA := fun s H Q e z g =>
  h s H _ e z fun d m1 v H1 s1 mu1 r1 q1 => q1 s H1 _ (e.step s1 mu1) (z.step s1) fun ds m2 vs H2 s2 mu2 r2 q2 => g _ m2 _ H2 (s1.trans s2) mu2 (.cons (r1.mono s2) r2) q2
theorem size_of {n : Nat} (h : Nat.ble n 1000 = true) : n ≤ sizeLine := Nat.le_trans (Nat.le_of_ble_eq_true h) (by decide)
theorem we_tup (h : Wa W E a r m fun ds m1 => Nat.ble ds.length 1000 = true ∧ K (.tup ds) m1) : We W E (tTup a) r m K := fun s H Q e z g =>
  h s H _ e z fun ds m1 vs H1 s1 mu1 r1 q1 => ⟨by rw [← r1.length]; exact size_of q1.1, fun p hp =>
    g _ m1 _ _ (s1.trans (Stp.new hp)) (mu1.new hp) (.tup (fun z => by obtain ⟨u, hu⟩ := mu1.there z; rw [hp] at hu; cases hu) (.inl upd_same) (r1.mono (Stp.new hp))) q1.2⟩
theorem we_lst (h : Wa W E a r m fun ds m1 => Nat.ble ds.length 1000 = true ∧ K (.lst ds) m1) : We W E (tLst a) r m K := fun s H Q e z g =>
  h s H _ e z fun ds m1 vs H1 s1 mu1 r1 q1 => ⟨by rw [← r1.length]; exact size_of q1.1, fun p hp =>
    g _ m1 _ _ (s1.trans (Stp.new hp)) (mu1.new hp) (.lst (fun z => by obtain ⟨u, hu⟩ := mu1.there z; rw [hp] at hu; cases hu) (.inl upd_same) (r1.mono (Stp.new hp))) q1.2⟩
/-- a list that will be changed -/
theorem we_lstM (h : Wa W E a r m fun ds m1 => Nat.ble ds.length 1000 = true ∧ ∀ p, ¬ dom m1 p → K (.ref p) ((p, .lst ds) :: m1)) : We W E (tLst a) r m K := fun s H Q e z g =>
  h s H _ e z fun ds m1 vs H1 s1 mu1 r1 q1 => ⟨by rw [← r1.length]; exact size_of q1.1, fun p hp =>
    g _ _ _ _ (s1.trans (Stp.newM (x := .lst ds) hp)) (mu1.newM hp (.lst upd_same (r1.mono (Stp.newM hp)))) (.ref p) (q1.2 p fun z => by obtain ⟨u, hu⟩ := mu1.there z; rw [hp] at hu; cases hu)⟩

/-! ### fields -/
theorem we_fld {f : Str} (h : We W E te r m fun d m1 => ∃ C ns ds x, FldD d m1 C ns ds ∧ Cls G.K C ∧ NoAttr G.K C f ∧ fix f ns ds = some x ∧ K x m1) : We W E (tFld G.K te f) r m K := fun s H Q e z g =>
  h s H _ e z fun d m1 v H1 s1 mu1 r1 q => by
    obtain ⟨C, ns, ds, x, i, c, n, hf, k⟩ := q
    obtain ⟨p, dx, gs, rfl, hp, rf⟩ := i.look mu1 r1
    obtain ⟨y, h1, h2⟩ := rf.look hf
    exact ⟨p, C, dx, gs, y, rfl, hp, c, n, h1, g x m1 y H1 s1 mu1 h2 k⟩

/-! ### subscripts -/
theorem atI_reps {M : Addr → Prop} {H : Hp} {ds : List D} {vs : List V} {i : Int} {d : D} (h : Reps M H ds vs) (e : atI ds i = some d) : ∃ v, atI vs i = some v ∧ Rep M H d v := by
  unfold atI at *
  rw [h.length] at e
  cases q : ixN vs.length i with
  | none => rw [q] at e; cases e
  | some k =>
    rw [q] at e
    exact h.get e
abbrev oIx (G : Gx) : O2 := fun x y _ H Q => rIx G.K x y H Q
theorem rd_l {K : PySem.W.Frag} {H : Hp} {a : Addr} {vs : List V} (h : Rd H a (.lst vs)) : SqL K H a vs := .inl h
theorem rd_t {K : PySem.W.Frag} {H : Hp} {a : Addr} {vs : List V} (h : Rd H a (.tup vs)) : SqT K H a vs := .inl h
theorem w2_ixT {ds : List D} {i : Int} {d : D} (h : atI ds i = some d ∧ K d m) : W2 W E (oIx G) (.tup ds) (.int i) r m K := fun s H Q x y e z rx ry g => by
  cases ry
  cases rx with
  | tup mm hh rs =>
    obtain ⟨v, h1, h2⟩ := atI_reps rs h.1
    exact .inr (.inl ⟨_, _, i, v, rfl, rfl, rd_t hh, h1, g d m v H (Stp.refl _ _) e.mu h2 h.2⟩)
theorem w2_ixL {ds : List D} {i : Int} {d : D} (h : atI ds i = some d ∧ K d m) : W2 W E (oIx G) (.lst ds) (.int i) r m K := fun s H Q x y e z rx ry g => by
  cases ry
  cases rx with
  | lst mm hh rs =>
    obtain ⟨v, h1, h2⟩ := atI_reps rs h.1
    exact .inl ⟨_, _, i, v, rfl, rfl, rd_l hh, h1, g d m v H (Stp.refl _ _) e.mu h2 h.2⟩
theorem w2_ixM {p : Addr} {ds : List D} {i : Int} {d : D} (hp : At m p (.lst ds)) (h : atI ds i = some d ∧ K d m) : W2 W E (oIx G) (.ref p) (.int i) r m K := fun s H Q x y e z rx ry g => by
  cases ry
  cases rx
  have q := hp.rep e.mu
  cases q with
  | lst hh rs =>
    obtain ⟨v, h1, h2⟩ := atI_reps rs h.1
    exact .inl ⟨_, _, i, v, rfl, rfl, SqL.of hh, h1, g d m v H (Stp.refl _ _) e.mu h2 h.2⟩
theorem we_op {rr : R2} (h : We W E ta r m fun x m1 => We W E tb r m1 fun y m2 => W2 W E (fun x y _ H Q => rr x y H Q) x y r m2 K) : We W E (tOp rr ta tb) r m K := we_2 h

/-! ### chains, truth -/
theorem we_3 (h : We W E ta r m fun x m1 => We W E tb r m1 fun y m2 => W2 W E o x y r m2 fun d m3 => ∃ b, d = .bl b ∧ (b = true → We W E tc r m3 fun w m4 => W2 W E o' y w r m4 K) ∧ (b = false → K (.bl false) m3)) : We W E (t3 o o' ta tb tc) r m K := fun s H Q e z g =>
  h s H _ e z fun x m1 v H1 s1 mu1 r1 h1 => h1 s H1 _ (e.step s1 mu1) (z.step s1) fun y m2 w H2 s2 mu2 r2 h2 => by
    have e2 := (e.step s1 mu1).step s2 mu2
    have z2 := (z.step s1).step s2
    refine h2 s H2 _ v w e2 z2 (r1.mono s2) r2 fun d m3 c H3 s3 mu3 r3 h3 => ?_
    obtain ⟨b, rfl, ht, hf⟩ := h3
    cases r3
    refine ⟨b, rfl, ?_⟩
    cases b with
    | true =>
      rw [if_pos rfl]
      exact ht rfl s H3 _ (e2.step s3 mu3) (z2.step s3) fun w' m4 cv H4 s4 mu4 r4 h4 =>
        h4 s H4 Q w cv ((e2.step s3 mu3).step s4 mu4) ((z2.step s3).step s4) ((r2.mono s3).mono s4) r4 ((((g.step s1).step s2).step s3).step s4)
    | false =>
      rw [if_neg Bool.false_ne_true]
      exact g _ m3 _ H3 ((s1.trans s2).trans s3) mu3 (.bl _) (hf rfl)
theorem wt_test (h : We W E te r m fun d m1 => ∃ b, d = .bl b ∧ KB b m1) : Wt W E (tTest te) r m KB := fun s H Q e z g =>
  h s H _ e z fun d m1 v H1 s1 mu1 r1 q => by
    obtain ⟨b, rfl, k⟩ := q
    cases r1
    exact ⟨b, rfl, g b m1 H1 s1 mu1 k⟩
theorem wt_B (h : We W E te r m fun d m1 => ∃ b, d = .bl b ∧ KB b m1) : Wt W E (tB te) r m KB := wt_test h
/-- the truth of a tree -/
inductive TruD : D → Mu → Bool → Prop
  | non {m : Mu} : TruD .non m false
  | bl {m : Mu} {b : Bool} : TruD (.bl b) m b
  | int {m : Mu} {i : Int} : TruD (.int i) m (i != 0)
  | tup {m : Mu} {xs : List D} : TruD (.tup xs) m (!xs.isEmpty)
  | lst {m : Mu} {xs : List D} : TruD (.lst xs) m (!xs.isEmpty)
  | mutb {m : Mu} {p : Addr} {xs : List D} (h : At m p (.lst xs)) : TruD (.ref p) m (!xs.isEmpty)
theorem reps_empty {M : Addr → Prop} {H : Hp} {ds : List D} {vs : List V} (h : Reps M H ds vs) : ds.isEmpty = vs.isEmpty := by cases h <;> rfl
theorem TruD.ok {d : D} {b : Bool} {H : Hp} {v : V} (h : TruD d m b) (mu : MutR m H) (rp : Rep (dom m) H d v) : TruV G.K v H b := by
  cases h with
  | non => cases rp; rfl
  | bl => cases rp; rfl
  | int => cases rp; rfl
  | tup =>
    cases rp with
    | tup mm hh rs => exact .inr (.inl ⟨_, rd_t hh, by rw [reps_empty rs]⟩)
  | lst =>
    cases rp with
    | lst mm hh rs => exact .inl ⟨_, rd_l hh, by rw [reps_empty rs]⟩
  | mutb h =>
    cases rp
    have q := h.rep mu
    cases q with
    | lst hh rs => exact .inl ⟨_, SqL.of hh, by rw [reps_empty rs]⟩
theorem wt_tr (h : We W E te r m fun d m1 => ∃ b, TruD d m1 b ∧ KB b m1) : Wt W E (tTr G.K te) r m KB := fun s H Q e z g =>
  h s H _ e z fun d m1 v H1 s1 mu1 r1 q => by
    obtain ⟨b, t, k⟩ := q
    exact ⟨b, t.ok mu1 r1, g b m1 H1 s1 mu1 k⟩
theorem wt_and (h : Wt W E t r m fun b m1 => (b = true → Wt W E u r m1 KB) ∧ (b = false → KB false m1)) : Wt W E (tAnd t u) r m KB := fun s H Q e z g =>
  h s H _ e z fun b m1 H1 s1 mu1 q => by
    cases b with
    | true => exact q.1 rfl s H1 Q (e.step s1 mu1) (z.step s1) fun b m2 H2 a c k => g b m2 H2 (s1.trans a) c k
    | false => exact g false m1 H1 s1 mu1 (q.2 rfl)
theorem wt_or (h : Wt W E t r m fun b m1 => (b = true → KB true m1) ∧ (b = false → Wt W E u r m1 KB)) : Wt W E (tOr t u) r m KB := fun s H Q e z g =>
  h s H _ e z fun b m1 H1 s1 mu1 q => by
    cases b with
    | true => exact g true m1 H1 s1 mu1 (q.1 rfl)
    | false => exact q.2 rfl s H1 Q (e.step s1 mu1) (z.step s1) fun b m2 H2 a c k => g b m2 H2 (s1.trans a) c k
theorem wt_not (h : Wt W E t r m fun b m1 => KB (!b) m1) : Wt W E (tNot t) r m KB := fun s H Q e z g =>
  h s H _ e z fun b m1 H1 s1 mu1 q => g (!b) m1 H1 s1 mu1 q
theorem we_andV (h : We W E ta r m fun d m1 => ∃ b, d = .bl b ∧ (b = true → We W E tb r m1 K) ∧ (b = false → K (.bl false) m1)) : We W E (tAndV ta tb) r m K := fun s H Q e z g =>
  h s H _ e z fun d m1 v H1 s1 mu1 r1 q => by
    obtain ⟨b, rfl, ht, hf⟩ := q
    cases r1
    refine ⟨b, rfl, ?_⟩
    cases b with
    | true =>
      rw [if_pos rfl]
      exact ht rfl s H1 Q (e.step s1 mu1) (z.step s1) (g.step s1)
    | false =>
      rw [if_neg Bool.false_ne_true]
      exact g _ m1 _ H1 s1 mu1 (.bl _) (hf rfl)
theorem we_orV (h : We W E ta r m fun d m1 => ∃ b, d = .bl b ∧ (b = true → K (.bl true) m1) ∧ (b = false → We W E tb r m1 K)) : We W E (tOrV ta tb) r m K := fun s H Q e z g =>
  h s H _ e z fun d m1 v H1 s1 mu1 r1 q => by
    obtain ⟨b, rfl, ht, hf⟩ := q
    cases r1
    refine ⟨b, rfl, ?_⟩
    cases b with
    | false =>
      rw [if_neg Bool.false_ne_true]
      exact hf rfl s H1 Q (e.step s1 mu1) (z.step s1) (g.step s1)
    | true =>
      rw [if_pos rfl]
      exact g _ m1 _ H1 s1 mu1 (.bl _) (ht rfl)
theorem we_notV (h : We W E te r m fun d m1 => ∃ b, d = .bl b ∧ K (.bl (!b)) m1) : We W E (tNotV te) r m K := fun s H Q e z g =>
  h s H _ e z fun d m1 v H1 s1 mu1 r1 q => by
    obtain ⟨b, rfl, k⟩ := q
    cases r1
    exact ⟨b, rfl, g _ m1 _ H1 s1 mu1 (.bl _) k⟩
theorem we_ifx (h : Wt W E t r m fun b m1 => (b = true → We W E ta r m1 K) ∧ (b = false → We W E tb r m1 K)) : We W E (tIf t ta tb) r m K := fun s H Q e z g =>
  h s H _ e z fun b m1 H1 s1 mu1 q => by
    cases b with
    | true => exact q.1 rfl s H1 Q (e.step s1 mu1) (z.step s1) (g.step s1)
    | false => exact q.2 rfl s H1 Q (e.step s1 mu1) (z.step s1) (g.step s1)

/-! ### calls of built-ins -/
def Wc (W : WX) (E : ET) (oc : OC) (ds : List D) (r : Rho) (m : Mu) (K : KT) : Prop := ∀ s H Q vs, EnvR r m s H → Rz W E m H → Reps (dom m) H ds vs → Go m H K Q → oc vs s H Q
theorem we_c2 (h : Wa W E a r m fun ds m1 => Wc W E oc ds r m1 K) : We W E (tC2 oc a) r m K := fun s H Q e z g =>
  h s H _ e z fun ds m1 vs H1 s1 mu1 r1 q => q s H1 Q vs (e.step s1 mu1) (z.step s1) r1 (g.step s1)
end

/-! ### statements -/
section
variable {W : WX} {E : ET} {r : Rho} {m : Mu} {P : DEnds} {G : Gx} {te to : TE} {tt : TT} {ts tu : TS} {i : Nat}
theorem ws_next (h : P.nx r m) : Ws W E tNext r m P := fun s H De e z g => g.nx r m s H (Stp.refl _ _) e h
theorem ws_brk (h : P.bk r m) : Ws W E tBreak r m P := fun s H De e z g => g.bk r m s H (Stp.refl _ _) e h
theorem ws_cont (h : P.ct r m) : Ws W E tCont r m P := fun s H De e z g => g.ct r m s H (Stp.refl _ _) e h
theorem ws_seq (h : Ws W E ts r m { P with nx := fun r' m' => Ws W E tu r' m' P }) : Ws W E (tSeq ts tu) r m P := fun s H De e z g =>
  h s H _ e z ⟨fun r' m' s' H' a b q => q s' H' De b (z.step a) (g.step a), g.rt, g.bk, g.ct⟩
theorem ws_ret (h : We W E te r m P.rt) : Ws W E (tRet te) r m P := fun s H De e z g => h s H _ e z fun d m' v H' a b c k => g.rt d m' v H' a b c k
theorem ws_retN (h : P.rt .non m) : Ws W E tRetN r m P := fun s H De e z g => g.rt .non m .non H (Stp.refl _ _) e.mu .non h
theorem ws_drop (h : We W E te r m fun _ m' => P.nx r m') : Ws W E (tDrop te) r m P := fun s H De e z g => h s H _ e z fun d m' v H' a b c k => g.nx r m' s H' a (e.step a b) k
theorem ws_if (h : Wt W E tt r m fun b m1 => (b = true → Ws W E ts r m1 P) ∧ (b = false → Ws W E tu r m1 P)) : Ws W E (tIfS tt ts tu) r m P := fun s H De e z g =>
  h s H _ e z fun b m1 H1 s1 mu1 q => by
    cases b with
    | true => exact q.1 rfl s H1 De (e.step s1 mu1) (z.step s1) (g.step s1)
    | false => exact q.2 rfl s H1 De (e.step s1 mu1) (z.step s1) (g.step s1)
/-- targets -/
def Wg (W : WX) (E : ET) (g : TG) (d : D) (r : Rho) (m : Mu) (N : Rho → Mu → Prop) : Prop := ∀ s H v Q, EnvR r m s H → Rz W E m H → Rep (dom m) H d v →
  (∀ r' m' s' H', Stp (dom m) H (dom m') H' → EnvR r' m' s' H' → N r' m' → Q s' H') → g v s H Q
def Wgs (W : WX) (E : ET) (g : TGs) (ds : List D) (r : Rho) (m : Mu) (N : Rho → Mu → Prop) : Prop := ∀ s H vs Q, EnvR r m s H → Rz W E m H → Reps (dom m) H ds vs →
  (∀ r' m' s' H', Stp (dom m) H (dom m') H' → EnvR r' m' s' H' → N r' m' → Q s' H') → g vs s H Q
variable {N : Rho → Mu → Prop}
theorem EnvR.put {s : L2.St} {H : Hp} {d : D} {v : V} (e : EnvR r m s H) (rd : Rep (dom m) H d v) : EnvR (r.set i (some d)) m (s.set i (some v)) H := ⟨e.env.set (.some rd) i, e.mu⟩
theorem wg_name {d : D} (h : N (r.set i (some d)) m) : Wg W E (gName i) d r m N := fun s H v Q e z rd g => g _ m _ H (Stp.refl _ _) (e.put rd) h
theorem wgs_nil (h : N r m) : Wgs W E gNil [] r m N := fun s H vs Q e z rd g => by
  cases rd
  exact ⟨rfl, g r m s H (Stp.refl _ _) e h⟩
theorem wgs_cons {g1 : TG} {gs : TGs} {d : D} {ds : List D} (h : Wg W E g1 d r m fun r' m' => Wgs W E gs ds r' m' N) : Wgs W E (gCons g1 gs) (d :: ds) r m N := fun s H vs Q e z rd g => by
  cases rd with
  | cons r1 rt =>
    exact ⟨_, _, rfl, h s H _ _ e z r1 fun r' m' s' H' a b q => q s' H' _ Q b (z.step a) (rt.mono a) fun r2 m2 s2 H2 a2 b2 q2 => g r2 m2 s2 H2 (a.trans a2) b2 q2⟩
theorem wg_tup {gs : TGs} {n : Nat} {ds : List D} (hn : ds.length = n) (h : Wgs W E gs ds r m N) : Wg W E (gTup G.K n gs) (.tup ds) r m N := fun s H v Q e z rd g => by
  cases rd with
  | tup mm hh rs => exact ⟨_, _, rfl, rd_t hh, by rw [← rs.length, hn], h s H _ Q e z rs g⟩
theorem ixN_reps {n k : Nat} {i : Int} (h : ixN n i = some k) : k < n := by
  unfold ixN at h
  split at h
  · split at h
    · cases h; omega
    · cases h
  · split at h
    · cases h; omega
    · cases h
theorem wg_subM {ti : TE} {d : D} (h : We W E to r m fun o m1 => We W E ti r m1 fun i m2 => ∃ p xs k j m3, o = .ref p ∧ i = .int k ∧ At m2 p (.lst xs) ∧ ixN xs.length k = some j ∧ Put m2 p (.lst (xs.set j d)) m3 ∧ N r m3) : Wg W E (gSub to ti rSetL) d r m N := fun s H v Q e z rd g =>
  h s H _ e z fun o m1 vo H1 s1 mu1 r1 q1 => q1 s H1 _ (e.step s1 mu1) (z.step s1) fun i m2 vi H2 s2 mu2 r2 q2 => by
    obtain ⟨p, xs, k, j, m3, rfl, rfl, ha, hj, hp, hn⟩ := q2
    cases r1
    cases r2
    have q := ha.rep mu2
    cases q with
    | lst hh rs =>
      have rd2 := (rd.mono s1).mono s2
      refine ⟨p, _, k, j, rfl, rfl, hh, by rw [← rs.length]; exact hj, ?_⟩
      have st : ∀ o, Stp (dom m2) H2 (dom m3) (upd H2 p o) := fun o => hp.stp
      exact g r m3 s _ ((s1.trans s2).trans (st _)) (((e.step s1 mu1).step s2 mu2).step (st _) (hp.mut mu2 (.lst upd_same ((rs.set rd2 j).mono (st _))))) hn
theorem ws_asg {g : TG} (h : We W E te r m fun d m1 => Wg W E g d r m1 P.nx) : Ws W E (tAsg te g) r m P := fun s H De e z gg =>
  h s H _ e z fun d m1 v H1 s1 mu1 r1 q => q s H1 v De.nx (e.step s1 mu1) (z.step s1) r1 fun r' m' s' H' a b k => gg.nx r' m' s' H' (s1.trans a) b k
theorem ws_par {j : Nat} {a : TA} (h : Wa W E a r m fun ds m1 => ∃ x y, ds = [x, y] ∧ P.nx ((r.set i (some x)).set j (some y)) m1) : Ws W E (tPar i j a) r m P := fun s H De e z g =>
  h s H _ e z fun ds m1 vs H1 s1 mu1 r1 q => by
    obtain ⟨x, y, rfl, k⟩ := q
    cases r1 with
    | cons ra t =>
      cases t with
      | cons rb t =>
        cases t
        exact ⟨_, _, rfl, g.nx _ m1 _ H1 s1 (((e.step s1 mu1).put ra).put rb) k⟩
theorem ws_par3 {j l : Nat} {a : TA} (h : Wa W E a r m fun ds m1 => ∃ x y w, ds = [x, y, w] ∧ P.nx (((r.set i (some x)).set j (some y)).set l (some w)) m1) : Ws W E (tPar3 i j l a) r m P := fun s H De e z g =>
  h s H _ e z fun ds m1 vs H1 s1 mu1 r1 q => by
    obtain ⟨x, y, w, rfl, k⟩ := q
    cases r1 with
    | cons ra t =>
      cases t with
      | cons rb t =>
        cases t with
        | cons rc t =>
          cases t
          exact ⟨_, _, _, rfl, g.nx _ m1 _ H1 s1 ((((e.step s1 mu1).put ra).put rb).put rc) k⟩
/-- self.f = e, a new field -/
theorem putF_new {f : Str} {y : V} : ∀ {fs : List (Str × V)}, f ∉ fs.map (·.1) → putF f y fs = fs ++ [(f, y)]
  | [], _ => rfl
  | (g, v) :: fs, h => by
    have ne : ¬ g = f := fun e => h (by simp [e])
    show (if g = f then _ else _) = _
    rw [if_neg ne, putF_new (fun z => h (by simp [z]))]
    rfl
theorem RepF.snoc {M : Addr → Prop} {H : Hp} {f : Str} {x : D} {y : V} (q : Rep M H x y) : ∀ {n : List Str} {d : List D} {v : List (Str × V)}, RepF M H n d v → RepF M H (n ++ [f]) (d ++ [x]) (v ++ [(f, y)])
  | _, _, _, .nil => .cons q .nil
  | _, _, _, .cons r t => .cons r (RepF.snoc q t)
theorem RepF.lens {M : Addr → Prop} {H : Hp} {n : List Str} {d : List D} {v : List (Str × V)} (h : RepF M H n d v) : v.length = n.length := by rw [← h.names, List.length_map]
theorem ws_fldN {f : Str} (h : We W E te r m fun d m1 => We W E to r m1 fun o m2 => ∃ p C ns ds m3, o = .ref p ∧ At m2 p (.ins C ns ds) ∧ Cls G.K C ∧ NoAttr G.K C f ∧ ns.contains f = false ∧ Nat.ble ns.length 900 = true ∧ Put m2 p (.ins C (ns ++ [f]) (ds ++ [d])) m3 ∧ P.nx r m3) : Ws W E (sFld G.K to te f) r m P := fun s H De e z g =>
  h s H _ e z fun d m1 v H1 s1 mu1 r1 q1 => q1 s H1 _ (e.step s1 mu1) (z.step s1) fun o m2 vo H2 s2 mu2 r2 q2 => by
    obtain ⟨p, C, ns, ds, m3, rfl, ha, hc, hn, hf, hl, hp, k⟩ := q2
    cases r2
    have q := ha.rep mu2
    cases q with
    | ins hh rf =>
      have st : ∀ o, Stp (dom m2) H2 (dom m3) (upd H2 p o) := fun o => hp.stp
      have nf : f ∉ List.map (fun q : Str × V => q.1) _ := fun zz => by
        rw [rf.names] at zz
        rw [List.contains_iff_mem.mpr zz] at hf
        cases hf
      refine ⟨p, C, _, _, rfl, hh, hc, hn, by rw [rf.lens]; have := Nat.le_of_ble_eq_true hl; omega, ?_⟩
      rw [putF_new nf]
      exact g.nx r m3 s _ ((s1.trans s2).trans (st _)) (((e.step s1 mu1).step s2 mu2).step (st _) (hp.mut mu2 (.ins upd_same ((rf.snoc (r1.mono s2)).mono (st _))))) k
end

/-! ### loops -/
section
variable {W : WX} {E : ET} {r : Rho} {m : Mu} {P : DEnds} {G : Gx} {te : TE} {ta : TA} {tt : TT} {tb : TS} {i : Nat}
theorem goL {m0 : Mu} {H0 : Hp} {De : Ends} {nx : L2.St → Hp → Prop} {Nx : Rho → Mu → Prop} (g : GoS m0 H0 P De) {H : Hp} {m : Mu} (st : Stp (dom m0) H0 (dom m) H)
    (h : ∀ r' m' s' H', Stp (dom m) H (dom m') H' → EnvR r' m' s' H' → Nx r' m' → nx s' H') : GoS m H { nx := Nx, rt := P.rt, bk := P.nx, ct := Nx } { De with nx := nx, ct := nx, bk := De.nx } :=
  ⟨h, fun d m' v H' a b c q => g.rt d m' v H' (st.trans a) b c q, fun r' m' s' H' a b q => g.nx r' m' s' H' (st.trans a) b q, h⟩
theorem ws_range1 (h : Wa W E ta r m fun ds m1 => ∃ (j : Int) (I : Nat → Rho → Mu → Prop), ds = [.int j] ∧ (-(2 ^ 62) ≤ j ∧ j < 2 ^ 62) ∧ I 0 r m1 ∧
    (∀ k r' m', k < j.toNat → I k r' m' → Ws W E tb (r'.set i (some (.int (k : Int)))) m' { nx := I (k + 1), rt := P.rt, bk := P.nx, ct := I (k + 1) }) ∧ (∀ r' m', I j.toNat r' m' → P.nx r' m')) :
    Ws W E (tFor (iRng1 ta) (gName i) tb) r m P := fun s H De e z g =>
  h s H _ e z fun ds m1 vs H1 s1 mu1 r1 q => by
    obtain ⟨j, I, rfl, ⟨b1, b2⟩, h0, hs, hd⟩ := q
    cases r1 with
    | cons ra t =>
      cases t
      cases ra
      refine ⟨j, rfl, b1, b2, ?_⟩
      refine for_range (lo := 0) (n := j.toNat) (fun k s' H' => ∃ r' m', Stp (dom m) H (dom m') H' ∧ EnvR r' m' s' H' ∧ I k r' m') ⟨r, m1, s1, e.step s1 mu1, h0⟩ (fun k s' H' hk ⟨r', m', st, e', hi⟩ => ?_) (fun s' H' ⟨r', m', st, e', hi⟩ => g.nx r' m' s' H' st e' (hd r' m' hi))
      have q := hs k r' m' hk hi
      show tb _ (s'.set i (some (.int (0 + (k : Int))))) H'
      rw [Int.zero_add]
      exact q _ H' _ (e'.put (.int _)) (z.step st) (goL g st fun r2 m2 s2 H2 a b c => ⟨r2, m2, st.trans a, b, c⟩)
theorem ws_range2 (h : Wa W E ta r m fun ds m1 => ∃ (l j : Int) (I : Nat → Rho → Mu → Prop), ds = [.int l, .int j] ∧ (-(2 ^ 62) ≤ l ∧ l < 2 ^ 62 ∧ -(2 ^ 62) ≤ j ∧ j < 2 ^ 62) ∧ I 0 r m1 ∧
    (∀ k r' m', k < (j - l).toNat → I k r' m' → Ws W E tb (r'.set i (some (.int (l + (k : Int))))) m' { nx := I (k + 1), rt := P.rt, bk := P.nx, ct := I (k + 1) }) ∧ (∀ r' m', I (j - l).toNat r' m' → P.nx r' m')) :
    Ws W E (tFor (iRng2 ta) (gName i) tb) r m P := fun s H De e z g =>
  h s H _ e z fun ds m1 vs H1 s1 mu1 r1 q => by
    obtain ⟨l, j, I, rfl, b1, h0, hs, hd⟩ := q
    cases r1 with
    | cons ra t =>
      cases t with
      | cons rb t =>
        cases t
        cases ra
        cases rb
        refine ⟨l, j, rfl, b1, ?_⟩
        refine for_range (lo := l) (n := (j - l).toNat) (fun k s' H' => ∃ r' m', Stp (dom m) H (dom m') H' ∧ EnvR r' m' s' H' ∧ I k r' m') ⟨r, m1, s1, e.step s1 mu1, h0⟩ (fun k s' H' hk ⟨r', m', st, e', hi⟩ => ?_) (fun s' H' ⟨r', m', st, e', hi⟩ => g.nx r' m' s' H' st e' (hd r' m' hi))
        exact hs k r' m' hk hi _ H' _ (e'.put (.int _)) (z.step st) (goL g st fun r2 m2 s2 H2 a b c => ⟨r2, m2, st.trans a, b, c⟩)
/-- for over a list or a tuple -/
def iSeq (K : PySem.W.Frag) (tl : TE) : TI := fun σ H R => tl σ H fun x H1 => (∃ a, x = .ref a ∧ (∃ xs, SqL K H1 a xs) ∧ R (Itl K a) H1) ∨ (∃ a, x = .ref a ∧ (∃ xs, SqT K H1 a xs) ∧ R (Itt K a) H1)
theorem pi_seq {X : Cx} {tg l : Expr} {tl : TE} (hl : PE X l tl) : PI X tg l (iSeq X.K tl) := by
  refine ⟨fun pins s σ H R I h => ?_⟩
  refine thn (hl.run pins s σ H _ I h) fun v s1 ⟨x, H1, I1, r1, q1⟩ => ?_
  rcases q1 with ⟨a, e, ⟨xs, hq⟩, q⟩ | ⟨a, e, ⟨xs, hq⟩, q⟩
  · subst e
    cases r1
    obtain ⟨its, rv, p, hz⟩ := I1.list hq
    refine wpAny_pyIter_list p.isList ?_
    refine ⟨s1.heap.objs.size, [s1.heap.objs.size], _, _, H1, rfl, I1.kept (t' := s1.toks) fun b o e => Heap.get?_push_of_some _ e, turn_list a _, ⟨_, Heap.get?_push_size _ rfl, rfl, rfl⟩, fun b hb => ?_, q⟩
    have e : b = s1.heap.objs.size := by simpa using hb
    subst e
    exact I1.fpOk (Nat.le_refl _) (I1.hok.fresh (Nat.le_refl _))
  · subst e
    cases r1
    obtain ⟨its, rv, p, hz⟩ := I1.tuple hq
    refine wpAny_pyIter_tuple (show s1.heap.IsTuple a its.toArray from p) ?_
    refine ⟨s1.heap.objs.size, [s1.heap.objs.size], _, _, H1, rfl, I1.kept (t' := s1.toks) fun b o e => Heap.get?_push_of_some _ e, turn_tuple a _, ⟨_, Heap.get?_push_size _ rfl, rfl, rfl⟩, fun b hb => ?_, q⟩
    have e : b = s1.heap.objs.size := by simpa using hb
    subst e
    exact I1.fpOk (Nat.le_refl _) (I1.hok.fresh (Nat.le_refl _))
inductive SeqD : D → List D → Prop
  | lst {xs : List D} : SeqD (.lst xs) xs
  | tup {xs : List D} : SeqD (.tup xs) xs
/-- by an invariant -/
theorem ws_seqI {g : TG} (h : We W E te r m fun d m1 => ∃ (xs : List D) (I : Nat → Rho → Mu → Prop), SeqD d xs ∧ I 0 r m1 ∧
    (∀ k x r' m', xs[k]? = some x → I k r' m' → Wg W E g x r' m' fun r2 m2 => Ws W E tb r2 m2 { nx := I (k + 1), rt := P.rt, bk := P.nx, ct := I (k + 1) }) ∧ (∀ r' m', I xs.length r' m' → P.nx r' m')) :
    Ws W E (tFor (iSeq G.K te) g tb) r m P := fun s H De e z gg =>
  h s H _ e z fun d m1 v H1 s1 mu1 r1 q => by
    obtain ⟨xs, I, sd, h0, hs, hd⟩ := q
    cases sd with
    | lst =>
      cases r1 with
      | @lst a _ vs mm hh rs =>
        refine .inl ⟨a, rfl, ⟨_, rd_l hh⟩, ?_⟩
        refine for_list (xs := vs) (fun k s' H' => ∃ r' m', Stp (dom m1) H1 (dom m') H' ∧ EnvR r' m' s' H' ∧ I k r' m') ⟨r, m1, Stp.refl _ _, e.step s1 mu1, h0⟩ (fun k s' H' _ ⟨r', m', st1, e', hi⟩ => rd_l (st1.rd mm hh).1)
          (fun k x s' H' hx ⟨r', m', st1, e', hi⟩ => ?_) (fun s' H' ⟨r', m', st1, e', hi⟩ => gg.nx r' m' s' H' (s1.trans st1) e' (hd r' m' (by rw [rs.length]; exact hi)))
        obtain ⟨d, hd1, hd2⟩ := rs.getV hx
        refine hs k d r' m' hd1 hi s' H' x _ e' (z.step (s1.trans st1)) (hd2.mono st1) fun r2 m2 s2 H2 st2 e2 q2 => ?_
        exact q2 s2 H2 _ e2 (z.step (s1.trans (st1.trans st2))) (goL gg (s1.trans (st1.trans st2)) fun r3 m3 s3 H3 a3 b3 c3 => ⟨r3, m3, st1.trans (st2.trans a3), b3, c3⟩)
    | tup =>
      cases r1 with
      | @tup a _ vs mm hh rs =>
        refine .inr ⟨a, rfl, ⟨_, rd_t hh⟩, ?_⟩
        refine for_tup (xs := vs) (fun k s' H' => ∃ r' m', Stp (dom m1) H1 (dom m') H' ∧ EnvR r' m' s' H' ∧ I k r' m') ⟨r, m1, Stp.refl _ _, e.step s1 mu1, h0⟩ (fun k s' H' _ ⟨r', m', st1, e', hi⟩ => rd_t (st1.rd mm hh).1)
          (fun k x s' H' hx ⟨r', m', st1, e', hi⟩ => ?_) (fun s' H' ⟨r', m', st1, e', hi⟩ => gg.nx r' m' s' H' (s1.trans st1) e' (hd r' m' (by rw [rs.length]; exact hi)))
        obtain ⟨d, hd1, hd2⟩ := rs.getV hx
        refine hs k d r' m' hd1 hi s' H' x _ e' (z.step (s1.trans st1)) (hd2.mono st1) fun r2 m2 s2 H2 st2 e2 q2 => ?_
        exact q2 s2 H2 _ e2 (z.step (s1.trans (st1.trans st2))) (goL gg (s1.trans (st1.trans st2)) fun r3 m3 s3 H3 a3 b3 c3 => ⟨r3, m3, st1.trans (st2.trans a3), b3, c3⟩)
/-- turn by turn, the target a name -/
def ForL (W : WX) (E : ET) (i : Nat) (tb : TS) (P : DEnds) : List D → Rho → Mu → Prop
  | [], r, m => P.nx r m
  | x :: xs, r, m => Ws W E tb (r.set i (some x)) m { nx := ForL W E i tb P xs, rt := P.rt, bk := P.nx, ct := ForL W E i tb P xs }
theorem ws_seqU (h : We W E te r m fun d m1 => ∃ xs, SeqD d xs ∧ ForL W E i tb P xs r m1) : Ws W E (tFor (iSeq G.K te) (gName i) tb) r m P :=
  ws_seqI (h.imp fun d m1 ⟨xs, sd, q⟩ => ⟨xs, fun k r' m' => ForL W E i tb P (xs.drop k) r' m', sd, (show ForL W E i tb P (xs.drop 0) r m1 by rw [List.drop_zero]; exact q), fun k x r' m' hx hi => by
    obtain ⟨hk, hx'⟩ := List.getElem?_eq_some_iff.mp hx
    have hi2 : ForL W E i tb P (xs.drop k) r' m' := hi
    rw [List.drop_eq_getElem_cons hk, hx'] at hi2
    exact wg_name hi2, fun r' m' hi => by
    have hi2 : ForL W E i tb P (xs.drop xs.length) r' m' := hi
    rw [List.drop_length] at hi2
    exact hi2⟩)
theorem forL_nil {r : Rho} {m : Mu} (h : P.nx r m) : ForL W E i tb P [] r m := h
theorem forL_cons {x : D} {xs : List D} {r : Rho} {m : Mu} (h : Ws W E tb (r.set i (some x)) m { nx := ForL W E i tb P xs, rt := P.rt, bk := P.nx, ct := ForL W E i tb P xs }) : ForL W E i tb P (x :: xs) r m := h
/-- while, by a word and a measure -/
theorem ws_while (I : Rho → Mu → Prop) (f : Rho → Mu → Nat) (h0 : I r m) (h : ∀ r m, I r m → Wt W E tt r m fun b m1 => (b = true → Ws W E tb r m1 { nx := fun r' m' => I r' m' ∧ f r' m' < f r m, rt := P.rt, bk := P.nx, ct := fun r' m' => I r' m' ∧ f r' m' < f r m }) ∧ (b = false → P.nx r m1)) :
    Ws W E (tWhile tt tb) r m P := fun s H De e z g => by
  refine ⟨fun n s' H' => ∃ r' m', n = f r' m' ∧ Stp (dom m) H (dom m') H' ∧ EnvR r' m' s' H' ∧ I r' m', ⟨_, r, m, rfl, Stp.refl _ _, e, h0⟩, ?_⟩
  rintro n s' H' ⟨r', m', rfl, st, e', hi⟩
  refine h r' m' hi s' H' _ e' (z.step st) fun b m1 H1 s1 mu1 q => ?_
  cases b with
  | true =>
    rw [if_pos rfl]
    refine ⟨fun s2 H2 => ∃ r2 m2, f r2 m2 < f r' m' ∧ Stp (dom m) H (dom m2) H2 ∧ EnvR r2 m2 s2 H2 ∧ I r2 m2, fun s2 H2 ⟨r2, m2, l, a, b, c⟩ => ⟨_, l, r2, m2, rfl, a, b, c⟩, ?_⟩
    exact q.1 rfl s' H1 _ (e'.step s1 mu1) (z.step (st.trans s1)) (goL g (st.trans s1) fun r2 m2 s2 H2 a b c => ⟨r2, m2, c.2, st.trans (s1.trans a), b, c.1⟩)
  | false =>
    rw [if_neg Bool.false_ne_true]
    exact g.nx r' m1 s' H1 (st.trans s1) (e'.step s1 mu1) (q.2 rfl)
end
end DL
set_option Elab.async false
set_option linter.all false
set_option maxRecDepth 100000
/-! DL6: built-in functions, comprehensions, lists changed, errors raised and caught. -/
namespace DL
open PySem PySem.Spec L2
open PyProof.Rows hiding St

/-! ### built-in functions: the readings -/
section
variable {X : Cx} {W : WX} {j : Nat}
def rAbsI : List V → Hp → VK → Prop := fun xs H Q => ∃ i, xs = [.int i] ∧ Q (.int (if i < 0 then -i else i)) H
def cAbs : OC := fun xs _ H Q => rAbsI xs H Q
theorem cs_abs : CallS X (.builtin "abs") cAbs := CallS.of call_abs
def rInt1 : List V → Hp → VK → Prop := fun xs H Q => (∃ i, xs = [.int i] ∧ Q (.int i) H) ∨ ∃ k, xs = [.bl k] ∧ Q (.int (if k then 1 else 0)) H
def cInt : OC := fun xs _ H Q => rInt1 xs H Q
theorem cs_int : CallS X (.type "int") cInt := CallS.of call_int1
def rLenD (K : PySem.W.Frag) : List V → Hp → VK → Prop := fun xs H Q => ∃ x n, xs = [x] ∧ LenV K x H n ∧ Q (.int (n : Nat)) H
def cLen (G : Gx) : OC := fun xs _ H Q => rLenD G.K xs H Q
theorem cs_len : CallS X (.builtin "len") (cLen (Gx.of X)) := CallS.of call_len
def rMin2 : List V → Hp → VK → Prop := fun xs H Q => ∃ i j, xs = [.int i, .int j] ∧ Q (.int (if j < i then j else i)) H
def rMax2 : List V → Hp → VK → Prop := fun xs H Q => ∃ i j, xs = [.int i, .int j] ∧ Q (.int (if j > i then j else i)) H
def cMin : OC := fun xs _ H Q => rMin2 xs H Q
def cMax : OC := fun xs _ H Q => rMax2 xs H Q
theorem cs_min (hc : X.calm = true) : CallS X (.builtin "min") cMin := CallS.of (call_min2 hc)
theorem cs_max (hc : X.calm = true) : CallS X (.builtin "max") cMax := CallS.of (call_max2 hc)
def cGcd : OC := fun xs _ H Q => rGcd xs H Q
theorem cs_gcd : CallS X (.builtin "math.gcd") cGcd := CallS.of cr_gcd
def cIsi (G : Gx) : OC := fun xs _ H Q => rIsi G.K xs H Q
theorem cs_isi : CallS X (.builtin "isinstance") (cIsi (Gx.of X)) := CallS.of call_isi
end

/-! ### what they do -/
section
variable {W : WX} {E : ET} {r : Rho} {m : Mu} {K : KT} {G : Gx} {j : Nat}
theorem wc_abs {i : Int} (h : K (.int (i.natAbs : Int)) m) : Wc W E cAbs [.int i] r m K := fun s H Q vs e z rs g => by
  cases rs with
  | cons a t =>
    cases t; cases a
    refine ⟨i, rfl, ?_⟩
    have q : (if i < 0 then -i else i) = (i.natAbs : Int) := by split <;> omega
    rw [q]
    exact g _ m _ H (Stp.refl _ _) e.mu (.int _) h
theorem wc_int {i : Int} (h : K (.int i) m) : Wc W E cInt [.int i] r m K := fun s H Q vs e z rs g => by
  cases rs with
  | cons a t =>
    cases t; cases a
    exact .inl ⟨i, rfl, g _ m _ H (Stp.refl _ _) e.mu (.int _) h⟩
theorem wc_intB {b : Bool} (h : K (.int (if b then 1 else 0)) m) : Wc W E cInt [.bl b] r m K := fun s H Q vs e z rs g => by
  cases rs with
  | cons a t =>
    cases t; cases a
    exact .inr ⟨b, rfl, g _ m _ H (Stp.refl _ _) e.mu (.int _) h⟩
inductive LenD : D → Mu → Nat → Prop
  | tup {m : Mu} {xs : List D} : LenD (.tup xs) m xs.length
  | lst {m : Mu} {xs : List D} : LenD (.lst xs) m xs.length
  | mutb {m : Mu} {p : Addr} {xs : List D} (h : At m p (.lst xs)) : LenD (.ref p) m xs.length
theorem wc_len {d : D} {n : Nat} (l : LenD d m n) (h : K (.int (n : Int)) m) : Wc W E (cLen G) [d] r m K := fun s H Q vs e z rs g => by
  cases rs with
  | cons a t =>
    cases t
    refine ⟨_, n, rfl, ?_, g _ m _ H (Stp.refl _ _) e.mu (.int _) h⟩
    cases l with
    | tup => cases a with | tup mm hh rs => exact .inr ⟨_, rd_t hh, rs.length⟩
    | lst => cases a with | lst mm hh rs => exact .inl ⟨_, rd_l hh, rs.length⟩
    | mutb hm =>
      cases a
      have q := hm.rep e.mu
      cases q with
      | lst hh rs => exact .inl ⟨_, SqL.of hh, rs.length⟩
theorem wc_min {i k : Int} (h : K (.int (min i k)) m) : Wc W E cMin [.int i, .int k] r m K := fun s H Q vs e z rs g => by
  cases rs with
  | cons a t =>
    cases t with
    | cons b t =>
      cases t; cases a; cases b
      refine ⟨i, k, rfl, ?_⟩
      have q : (if k < i then k else i) = min i k := by split <;> omega
      rw [q]
      exact g _ m _ H (Stp.refl _ _) e.mu (.int _) h
theorem wc_max {i k : Int} (h : K (.int (max i k)) m) : Wc W E cMax [.int i, .int k] r m K := fun s H Q vs e z rs g => by
  cases rs with
  | cons a t =>
    cases t with
    | cons b t =>
      cases t; cases a; cases b
      refine ⟨i, k, rfl, ?_⟩
      have q : (if k > i then k else i) = max i k := by split <;> omega
      rw [q]
      exact g _ m _ H (Stp.refl _ _) e.mu (.int _) h
theorem wc_gcd {i k : Int} (h : K (.int ((Nat.gcd i.natAbs k.natAbs : Nat) : Int)) m) : Wc W E cGcd [.int i, .int k] r m K := fun s H Q vs e z rs g => by
  cases rs with
  | cons a t =>
    cases t with
    | cons b t =>
      cases t; cases a; cases b
      exact ⟨i, k, rfl, g _ m _ H (Stp.refl _ _) e.mu (.int _) h⟩
/-- the class of a tree, as isinstance asks -/
structure InsK (K : PySem.W.Frag) (C : Addr) : Prop where
  cl : Cls K C
  ha : PySem.W.findIn K (.ref C) "__class__" = some (some (.builtin "object.__class__"))
  hn : PySem.W.specialIn K (.builtin "object.__class__") "__get__" = some (some (.builtin "getset_descriptor.__get__"))
  ht : PySem.W.takesIn K (.builtin "object.__class__") = some true
  hm : PySem.W.mroIn K C (.type "object") = some true
inductive TyD (G : Gx) : D → Mu → Value → Prop
  | non {m : Mu} : TyD G .non m (.type "NoneType")
  | bl {m : Mu} {b : Bool} : TyD G (.bl b) m (.type "bool")
  | int {m : Mu} {i : Int} : TyD G (.int i) m (.type "int")
  | str {m : Mu} {x : Str} : TyD G (.str x) m (.type "str")
  | tup {m : Mu} {xs : List D} : TyD G (.tup xs) m (.type "tuple")
  | lst {m : Mu} {xs : List D} : TyD G (.lst xs) m (.type "list")
  | ins {m : Mu} {C : Addr} {ns : List Str} {ds : List D} (h : InsK G.K C) : TyD G (.ins C ns ds) m (.ref C)
theorem TyD.ok {d : D} {t : Value} {H : Hp} {v : V} (h : TyD G d m t) (rp : Rep (dom m) H d v) : TyX G.K H v t := by
  cases h with
  | non => cases rp; exact .base .non
  | bl => cases rp; exact .base (.bl _)
  | int => cases rp; exact .base (.int _)
  | str => cases rp; exact .base (.str _)
  | tup =>
    cases rp with
    | tup mm hh rs =>
      rcases hh with hh | ⟨o, hh⟩
      · exact .base (.tup hh)
      · exact .fTuple hh
  | lst =>
    cases rp with
    | lst mm hh rs =>
      rcases hh with hh | ⟨o, hh⟩
      · exact .base (.lst hh)
      · exact .base (.frz hh)
  | ins h =>
    cases rp with
    | ins mm hh rs => exact .base (.ins hh h.cl h.ha h.hn h.ht h.hm)
theorem wc_isiT {d : D} {t : Value} {n : String} {b : Bool} (ty : TyD G d m t) (hk : PySem.W.kitOne G.K t (.type n) = some b) (h : K (.bl b) m) : Wc W E (cIsi G) [d, .ty n] r m K := fun s H Q vs e z rs g => by
  cases rs with
  | cons a tt =>
    cases tt with
    | cons c tt =>
      cases tt; cases c
      exact ⟨_, _, t, .type n, b, rfl, .ty n, ty.ok a, hk, g _ m _ H (Stp.refl _ _) e.mu (.bl _) h⟩
theorem wc_isiC {d : D} {t : Value} {C : Addr} {b : Bool} (ty : TyD G d m t) (hk : PySem.W.kitOne G.K t (.ref C) = some b) (h : K (.bl b) m) : Wc W E (cIsi G) [d, .ref C] r m K := fun s H Q vs e z rs g => by
  cases rs with
  | cons a tt =>
    cases tt with
    | cons c tt =>
      cases tt; cases c
      exact ⟨_, _, t, .ref C, b, rfl, .own C, ty.ok a, hk, g _ m _ H (Stp.refl _ _) e.mu (.bl _) h⟩
end

/-! ### comprehensions over a list or a tuple, the element by a function -/
section
variable {W : WX} {E : ET} {r : Rho} {m : Mu} {K : KT} {G : Gx} {te tx : TE} {i : Nat}
theorem wipe1 (s : L2.St) : wipe s [i] = s.set i none := rfl
theorem we_lcmG {f : D → D} {W0 : WX} {E0 : ET} (hz : ∀ {m : Mu} {H : Hp}, Rz W E m H → Rz W0 E0 m H) (h : We W E tx r m fun d m1 => ∃ xs, SeqD d xs ∧ Nat.ble xs.length 100000 = true ∧ (∀ x ∈ xs, ∀ (q : Addr × MO) (K2 : KT), K2 (f x) (q :: m1) → We W0 E0 te (r.set i (some x)) (q :: m1) K2) ∧ K (.lst (xs.map f)) m1) :
    We W E (tLc (iSeq G.K tx) (gName i) tYes te [i]) r m K := fun s H Q e z g =>
  h s H _ e z fun d m1 v H1 s1 mu1 r1 q => by
    obtain ⟨xs, sd, hlen, hel, hK⟩ := q
    have e1 := e.step s1 mu1
    have hlen' := Nat.le_of_ble_eq_true hlen
    have start : ∀ Dd, H1 Dd = none → (Stp (dom m1) H1 (dom ((Dd, MO.lst ((xs.take 0).map f)) :: m1)) (upd H1 Dd (.lst [])) ∧ MutR ((Dd, .lst ((xs.take 0).map f)) :: m1) (upd H1 Dd (.lst []))) := fun Dd hd =>
      ⟨Stp.newM hd, mu1.newM hd (.lst upd_same .nil)⟩
    have fin : ∀ (vs : List V) (Dd : Addr), Reps (dom m1) H1 xs vs → ∀ H', (Stp (dom m1) H1 (dom ((Dd, MO.lst ((xs.take vs.length).map f)) :: m1)) H' ∧ MutR ((Dd, .lst ((xs.take vs.length).map f)) :: m1) H') → Q (.ref Dd) H' := fun vs Dd rs H' ⟨a, b⟩ => by
      rw [← rs.length, List.take_length] at a b
      have ls : Stp (dom ((Dd, MO.lst (xs.map f)) :: m1)) H' (dom m1) H' := Stp.less fun a z => dom_cons.mpr (.inr z)
      have q := (At.head (m := m1) (p := Dd) (o := .lst (xs.map f))).rep b
      cases q with
      | lst hh rr => exact g _ m1 _ H' (s1.trans (a.trans ls)) b.drop (.lst b.notin (.inl hh) (rr.mono ls)) hK
    have turn : ∀ (vs : List V) (Dd : Addr), Reps (dom m1) H1 xs vs → ∀ k x H', vs[k]? = some x → (Stp (dom m1) H1 (dom ((Dd, MO.lst ((xs.take k).map f)) :: m1)) H' ∧ MutR ((Dd, .lst ((xs.take k).map f)) :: m1) H') →
        te ((wipe s [i]).set i (some x)) H' fun y H4 => ∃ acc, H4 Dd = some (.lst acc) ∧ acc.length < sizeLine ∧ (Stp (dom m1) H1 (dom ((Dd, MO.lst ((xs.take (k + 1)).map f)) :: m1)) (upd H4 Dd (.lst (acc ++ [y]))) ∧ MutR ((Dd, .lst ((xs.take (k + 1)).map f)) :: m1) (upd H4 Dd (.lst (acc ++ [y])))) := fun vs Dd rs k x H' hx ⟨a, b⟩ => by
      obtain ⟨d, hd1, hd2⟩ := rs.getV hx
      have hmem : d ∈ xs := List.mem_of_getElem? hd1
      have ee : EnvR (r.set i (some d)) ((Dd, .lst ((xs.take k).map f)) :: m1) ((wipe s [i]).set i (some x)) H' := by
        have e' := e1.step a b
        refine ⟨?_, b⟩
        rw [wipe1, List.set_set]
        exact (e'.put (hd2.mono a)).env
      refine hel d hmem (Dd, .lst ((xs.take k).map f)) (fun d' m' => d' = f d ∧ m' = (Dd, .lst ((xs.take k).map f)) :: m1) ⟨rfl, rfl⟩ _ H' _ ee (hz (z.step (s1.trans a))) fun d' m' y H4 st4 mu4 r4 qq => ?_
      obtain ⟨rfl, rfl⟩ := qq
      have q := (At.head (m := m1) (p := Dd) (o := .lst ((xs.take k).map f))).rep mu4
      have ex : xs.take (k + 1) = xs.take k ++ [d] := by
        rw [List.take_add_one, hd1]
        rfl
      cases q with
      | @lst _ ys hh rr =>
        have al : ys.length < sizeLine := by
          rw [← rr.length, List.length_map, List.length_take]
          have : (100000 : Nat) < sizeLine := by decide
          omega
        have P : Put ((Dd, MO.lst ((xs.take k).map f)) :: m1) Dd (.lst ((xs.take (k + 1)).map f)) ((Dd, .lst ((xs.take (k + 1)).map f)) :: m1) := .head
        refine ⟨ys, hh, al, a.trans (st4.trans P.stp), P.mut mu4 (.lst upd_same ?_)⟩
        rw [ex, List.map_append]
        exact Reps.append (rr.mono P.stp) (.cons (r4.mono P.stp) .nil)
    cases sd with
    | lst =>
      cases r1 with
      | @lst a _ vs mm hh rs =>
        refine .inl ⟨a, rfl, ⟨vs, rd_l hh⟩, fun (Dd : Addr) (hD : H1 Dd = none) => ?_⟩
        refine lc_list (xs := vs) (fun k H' => Stp (dom m1) H1 (dom ((Dd, MO.lst ((xs.take k).map f)) :: m1)) H' ∧ MutR ((Dd, .lst ((xs.take k).map f)) :: m1) H') (start Dd hD) (fun k H' _ p => rd_l (p.1.rd mm hh).1)
          (fun k x H' hx p => ⟨by simp only [wipe, List.set_set], ?_⟩) (fun H' p => fin vs Dd rs H' p)
        unfold tYes
        dsimp only
        rw [if_pos rfl]
        exact turn vs Dd rs k x H' hx p
    | tup =>
      cases r1 with
      | @tup a _ vs mm hh rs =>
        refine .inr ⟨a, rfl, ⟨vs, rd_t hh⟩, fun (Dd : Addr) (hD : H1 Dd = none) => ?_⟩
        refine lc_tup (xs := vs) (fun k H' => Stp (dom m1) H1 (dom ((Dd, MO.lst ((xs.take k).map f)) :: m1)) H' ∧ MutR ((Dd, .lst ((xs.take k).map f)) :: m1) H') (start Dd hD) (fun k H' _ p => rd_t (p.1.rd mm hh).1)
          (fun k x H' hx p => ⟨by simp only [wipe, List.set_set], ?_⟩) (fun H' p => fin vs Dd rs H' p)
        unfold tYes
        dsimp only
        rw [if_pos rfl]
        exact turn vs Dd rs k x H' hx p
theorem we_lcm {f : D → D} (h : We W E tx r m fun d m1 => ∃ xs, SeqD d xs ∧ Nat.ble xs.length 100000 = true ∧ (∀ x ∈ xs, ∀ (q : Addr × MO) (K2 : KT), K2 (f x) (q :: m1) → We W E te (r.set i (some x)) (q :: m1) K2) ∧ K (.lst (xs.map f)) m1) :
    We W E (tLc (iSeq G.K tx) (gName i) tYes te [i]) r m K := we_lcmG (fun z => z) h
/-- no call of an element lets an exception out -/
theorem we_lcmN {f : D → D} (h : We W E tx r m fun d m1 => ∃ xs, SeqD d xs ∧ Nat.ble xs.length 100000 = true ∧ (∀ x ∈ xs, ∀ (q : Addr × MO) (K2 : KT), K2 (f x) (q :: m1) → We (fun _ _ _ _ => False) (fun _ _ _ => False) te (r.set i (some x)) (q :: m1) K2) ∧ K (.lst (xs.map f)) m1) :
    We W E (tLc (iSeq G.K tx) (gName i) tYes te [i]) r m K := we_lcmG (fun _ _ _ _ _ _ _ _ _ _ _ (e : False) => e.elim) h
end
end DL
set_option Elab.async false
set_option linter.all false
set_option maxRecDepth 100000
/-! DL7: lists changed, slices, errors raised and caught. -/
namespace DL
open PySem PySem.Spec L2
open PyProof.Rows hiding St

section
variable {W : WX} {E : ET} {r : Rho} {m : Mu} {K : KT} {G : Gx} {te to : TE} {ta : TA} {i : Nat} {P : DEnds}
/-! ### xs.append(d) -/
theorem we_app (h : We W E to r m fun o m1 => ∃ p xs1, o = .ref p ∧ At m1 p (.lst xs1) ∧ Wa W E ta r m1 fun ds m2 => ∃ xs d m3, ds = [d] ∧ At m2 p (.lst xs) ∧ xs.length < 1000000 ∧ Put m2 p (.lst (xs ++ [d])) m3 ∧ K .non m3) :
    We W E (tBM G.K "list" rAppend to ta) r m K := fun s H Q e z g =>
  h s H _ e z fun o m1 v H1 s1 mu1 r1 q => by
    obtain ⟨p, xs1, rfl, ha1, q⟩ := q
    cases r1
    have at1 := ha1.rep mu1
    cases at1 with
    | lst hh1 rs1 =>
      refine ⟨Or.inl ⟨rfl, _, SqL.of hh1⟩, ?_⟩
      refine q s H1 _ (e.step s1 mu1) (z.step s1) fun ds m2 vs H2 s2 mu2 r2 q2 => ?_
      obtain ⟨xs, d, m3, rfl, ha, hl, hp, k⟩ := q2
      have at2 := ha.rep mu2
      cases at2 with
      | lst hh rs =>
        cases r2 with
        | cons rd t =>
          cases t
          have st : ∀ o, Stp (dom m2) H2 (dom m3) (upd H2 p o) := fun o => hp.stp
          refine ⟨p, _, _, rfl, rfl, hh, Nat.lt_of_lt_of_le (by rw [← rs.length]; exact hl) (by decide : 1000000 ≤ sizeLine), ?_⟩
          exact g _ m3 _ _ ((s1.trans s2).trans (st _)) (hp.mut mu2 (.lst upd_same (Reps.append (rs.mono (st _)) (.cons (rd.mono (st _)) .nil)))) .non k

/-! ### slices -/
def cutD (xs : List D) (lo hi : Option Int) : List D := (xs.drop (HT.sIx xs.length 0 lo)).take (HT.sIx xs.length xs.length hi - HT.sIx xs.length 0 lo)
theorem Reps.cut {M : Addr → Prop} {H : Hp} {ds : List D} {vs : List V} (h : Reps M H ds vs) (lo hi : Option Int) : Reps M H (cutD ds lo hi) (cutV vs lo hi) := by
  unfold cutD cutV
  rw [h.length]
  exact (h.drop _).take _
def Wo (W : WX) (E : ET) (t : TO) (r : Rho) (m : Mu) (KO : Option Int → Mu → Prop) : Prop := ∀ s H Q, EnvR r m s H → Rz W E m H → (∀ o m' H', Stp (dom m) H (dom m') H' → MutR m' H' → KO o m' → Q o H') → t s H Q
theorem wo_none {KO : Option Int → Mu → Prop} (h : KO none m) : Wo W E tNoPart r m KO := fun s H Q e z g => g none m H (Stp.refl _ _) e.mu h
theorem wo_some {KO : Option Int → Mu → Prop} (h : We W E te r m fun d m1 => ∃ i, d = .int i ∧ KO (some i) m1) : Wo W E (tPart te) r m KO := fun s H Q e z g =>
  h s H _ e z fun d m1 v H1 s1 mu1 r1 ⟨i, hd, k⟩ => by
    subst hd
    cases r1
    exact ⟨i, rfl, g _ m1 H1 s1 mu1 k⟩
theorem we_slL {tl th : TO} (h : We W E te r m fun d m1 => ∃ xs, d = .lst xs ∧ Wo W E tl r m1 fun lo m2 => Wo W E th r m2 fun hi m3 => K (.lst (cutD xs lo hi)) m3) : We W E (tSl (rSlL G.K) te tl th) r m K := fun s H Q e z g =>
  h s H _ e z fun d m1 v H1 s1 mu1 r1 ⟨xs, hd, q⟩ => by
    subst hd
    refine q s H1 _ (e.step s1 mu1) (z.step s1) fun lo m2 H2 s2 mu2 q2 => ?_
    refine q2 s H2 _ ((e.step s1 mu1).step s2 mu2) ((z.step s1).step s2) fun hi m3 H3 s3 mu3 k => ?_
    have r3 := (r1.mono s2).mono s3
    cases r3 with
    | lst mm hh rs =>
      refine ⟨_, _, rfl, rd_l hh, fun p hp => ?_⟩
      exact g _ m3 _ _ (((s1.trans s2).trans s3).trans (Stp.new hp)) (mu3.new hp) (.lst (fun zz => by obtain ⟨u, hu⟩ := mu3.there zz; rw [hp] at hu; cases hu) (.inl upd_same) ((rs.cut lo hi).mono (Stp.new hp))) k
/-- xs[::-1] -/
theorem Reps.rev {M : Addr → Prop} {H : Hp} : ∀ {d : List D} {v : List V}, Reps M H d v → Reps M H d.reverse v.reverse
  | _, _, .nil => .nil
  | _, _, .cons r t => by
    rw [List.reverse_cons, List.reverse_cons]
    exact Reps.append (Reps.rev t) (.cons r .nil)
theorem we_revL (h : We W E te r m fun d m1 => ∃ xs, d = .lst xs ∧ K (.lst xs.reverse) m1) : We W E (tRevL G.K te) r m K := fun s H Q e z g => by
  refine h s H _ e z fun d m1 v H1 s1 mu1 r1 ⟨xs, hd, k⟩ => ?_
  subst hd
  cases r1 with
  | lst mm hh rs =>
    refine ⟨_, _, rfl, rd_l hh, fun p hp => ?_⟩
    exact g _ m1 _ _ (s1.trans (Stp.new hp)) (mu1.new hp) (.lst (fun zz => by obtain ⟨u, hu⟩ := mu1.there zz; rw [hp] at hu; cases hu) (.inl upd_same) (rs.rev.mono (Stp.new hp))) k
/-- .. of a list that is changed -/
theorem we_revM (h : We W E te r m fun d m1 => ∃ p xs, d = .ref p ∧ At m1 p (.lst xs) ∧ K (.lst xs.reverse) m1) : We W E (tRevL G.K te) r m K := fun s H Q e z g => by
  refine h s H _ e z fun d m1 v H1 s1 mu1 r1 ⟨q, xs, hd, ha, k⟩ => ?_
  subst hd
  cases r1
  have at1 := ha.rep mu1
  cases at1 with
  | lst hh rs =>
    refine ⟨_, _, rfl, SqL.of hh, fun p hp => ?_⟩
    exact g _ m1 _ _ (s1.trans (Stp.new hp)) (mu1.new hp) (.lst (fun zz => by obtain ⟨u, hu⟩ := mu1.there zz; rw [hp] at hu; cases hu) (.inl upd_same) (rs.rev.mono (Stp.new hp))) k
end

/-! ### errors made by an own class: C(e, ..) with an __init__ that keeps its arguments in fields -/
def spXI (C : Addr) (ns : List Str) : Sp := fun vs H Q _ => ∃ (a : Addr) (ys : List V), vs = .ref a :: ys ∧ ys.length = ns.length ∧ H a = some (exo a C none) ∧
  ∀ d H', H d = none → d ≠ a → (∀ b, b ≠ a → b ≠ d → H' b = H b) → H' a = some (exo a C (some d)) → H' d = some (exd d (ns.zip ys).reverse) → Q .non H'
structure Exc (G : Gx) (x : Str) (C : Addr) (ns : List Str) : Prop where
  ex : ∃ (f : Addr) (fd : FuncData) (ps : List Str), FnOk G.P G.w G.K G.mg G.base CX0 1 f fd ps (spXI C ns) ∧ Binds G.K fd ps [] ∧ PySem.W.findIn G.K (.ref C) "__init__" = some (some (.ref f)) ∧ PySem.W.typeIn G.K (.ref f) = some (.type "function")
  ox : OexC G.K C
  mgC : G.mg x = some (.ref C)
section
variable {X : Cx} {W : WX} {E : ET} {x : Str} {C : Addr} {ns : List Str} {e : Expr} {es : List Expr} {ta : TA} {p pos pos' : Pos} {j : Nat}
theorem pmkN_oex (c : Exc (Gx.of X) x C ns) (hr : Room j X.A) (hj : 2 ≤ j) (hg : Gl X x) (ha : PA X (e :: es) ta)
    (hdb : (x == ("__debug__" : Str)) = false := by decide) (he : starEach (e :: es) X.env = (false, eval e X.env) :: starEach es X.env := by rfl) (hpl : (backTo pos (starEach es X.env)).any (·.1) = false := by rfl) :
    L2N.PMk X (.Call (.Name x p) (e :: es) [] pos) (tMkO C (spXI C ns) [] ta) := by
  intro pins s σ H Q I h
  obtain ⟨fI, fd, ps, F1, hb, iC, tI⟩ := c.ex
  have T := c.ox
  obtain ⟨nm, q, N, bs, bm, sn, sub, ab, col, dd, k0, k1, k2, k3, k5, hC, hbm⟩ := T.cls
  refine wpAny_Call_Name_kw (ld_glob I hg c.mgC ?_ hdb)
  refine PySem.W.callWith_K (h₀ := X.base) I.ok.mod.kin T.kC (thn (ha.run pos pins s σ H _ I h) fun us s1 ⟨vs, H1, I1, r1, hz, q1⟩ => ⟨I1.kIn, ?_⟩) he hpl
  show wpAny _ _ (call (.ref C) us) _ _ _
  obtain ⟨hp, g, dr, tk, os⟩ := s1
  have hsz : hp.objs.size ≤ hp.objs.size + 1 := Nat.le_succ _
  have hn : H1 (hp.objs.size + 1) = none := I1.hok.fresh hsz
  have hq := q1 (hp.objs.size + 1) hn
  rw [List.append_nil] at hq
  have kk : ∀ b o, hp.get? b = some o → ((hp.push (PySem.W.kdv_tup us)).push (PySem.HandSPX.excO C hp.objs.size)).get? b = some o := fun b o e => Heap.get?_push_of_some _ (Heap.get?_push_of_some _ e)
  have hget : ((hp.push (PySem.W.kdv_tup us)).push (PySem.HandSPX.excO C hp.objs.size)).get? (hp.objs.size + 1) = some (PySem.HandSPX.excO C hp.objs.size) := by heap_get
  have I2 : Inv X pins σ (upd H1 (hp.objs.size + 1) (exo (hp.objs.size + 1) C none)) ⟨(hp.push (PySem.W.kdv_tup us)).push (PySem.HandSPX.excO C hp.objs.size), g, dr, tk, os⟩ :=
    I1.laid (t' := tk) (a := hp.objs.size + 1) (o := exo (hp.objs.size + 1) C none) (h' := (hp.push (PySem.W.kdv_tup us)).push (PySem.HandSPX.excO C hp.objs.size)) kk hsz (exo_ok hget)
  have r2 : Vals (V.ref (hp.objs.size + 1) :: vs) (Value.ref (hp.objs.size + 1) :: us) := .cons rfl r1
  have hl : (Value.ref (hp.objs.size + 1) :: us ++ []).length = ps.length := by
    have e := r2.length
    rw [F1.len _ _ _ _ hq] at e
    rw [List.append_nil]
    exact e.symm
  have hus : us.length ≤ sizeLine := by
    rw [← Paired.length r1, sizeLine_eq]
    omega
  have b2 := hb _ (Value.ref (hp.objs.size + 1) :: us) I2.kIn hl
  rw [List.append_nil] at b2
  refine wpAny_call (PySem.HandSPX.call_own F.excBase_ValueError (fun Y => PySem.HandSPX.refsVE_contains Y bm hbm) (I1.kIn _ _ hC) (PySem.W.looks_findIn I1.kIn iC) (fun self => PySem.W.bind_fn I1.kIn self tI) hus
    (codeAny_mono (F1.run _ X.stack _ _ ⟨Value.ref (hp.objs.size + 1) :: us, []⟩ (Value.ref (hp.objs.size + 1) :: us) _ _ (fun _ _ _ => False) ((hr.mono hj).make C us []) (I2.env0.make C us []) b2 r2 hq) fun r s' hq' => ?_))
  cases r with
  | error er => exact False.elim hq'
  | ok fl =>
    cases fl with
    | ret u =>
      obtain ⟨v, H2, os2, bare2, un2, hok2, rv, ev, d, fs, ea, ed, hd1, q2⟩ := hq'
      subst ev
      obtain ⟨h2, g2, d2, t2, os'⟩ := s'
      obtain ⟨t0, G, J, kG, ge, hoe, na⟩ := mk_end0 (d2 := d2) (t2 := t2) I1 hsz kk un2 hok2 os2 bare2 ea ed hd1
      exact ⟨rv, ⟨_, _, _, ⟨G, g2, d2, t2, os'⟩, _, .ref C, some d, rfl, J, kG, ge, hoe, ⟨rfl, rfl, fun vs e => by cases e; rfl⟩, rfl, rfl, na, rfl, bare2, raises_own T.exC T.tyC, q2⟩⟩
    | next => exact False.elim hq'
    | brk => exact False.elim hq'
    | cont => exact False.elim hq'
def tRs (C : Addr) (ns : List Str) (W : WX) (ta : TA) : TS := fun _ σ H => tMkO C (spXI C ns) [] ta σ H fun cls d H' => W cls d σ H'
theorem ps_rs (c : Exc (Gx.of X) x C ns) (hc : X.calm = true) (hr : Room j X.A) (hj : 2 ≤ j) (tk : L2N.Takes X W) (hg : Gl X x) (ha : PA X (e :: es) ta)
    (hdb : (x == ("__debug__" : Str)) = false := by decide) (he : starEach (e :: es) X.env = (false, eval e X.env) :: starEach es X.env := by rfl) (hpl : (backTo pos (starEach es X.env)).any (·.1) = false := by rfl) :
    PS X (.Raise (some (.Call (.Name x p) (e :: es) [] pos)) none pos') (tRs C ns W ta) := L2N.ps_raise hc tk (pmkN_oex c hr hj hg ha hdb he hpl)
theorem repF_zip {M : Addr → Prop} {H : Hp} : ∀ {ns : List Str} {ds : List D} {vs : List V}, ds.length = ns.length → Reps M H ds vs → RepF M H ns ds (ns.zip vs)
  | [], [], _, _, .nil => .nil
  | n :: ns, d :: ds, v :: vs, h, .cons r t => .cons r (repF_zip (by simpa using h) t)
theorem RepF.append {M : Addr → Prop} {H : Hp} : ∀ {n n' : List Str} {d d' : List D} {v v' : List (Str × V)}, RepF M H n d v → RepF M H n' d' v' → RepF M H (n ++ n') (d ++ d') (v ++ v')
  | _, _, _, _, _, _, .nil, h => h
  | _, _, _, _, _, _, .cons r t, h => .cons r (RepF.append t h)
theorem RepF.rev {M : Addr → Prop} {H : Hp} : ∀ {n : List Str} {d : List D} {v : List (Str × V)}, RepF M H n d v → RepF M H n.reverse d.reverse v.reverse
  | _, _, _, .nil => .nil
  | _, _, _, .cons r t => by
    rw [List.reverse_cons, List.reverse_cons, List.reverse_cons]
    exact RepF.append (RepF.rev t) (.cons r .nil)
theorem ws_rs {r : Rho} {m : Mu} {P : DEnds} (h : Wa W E ta r m fun ds m1 => ds.length = ns.length ∧ Nat.ble ds.length 1000 = true ∧ E ⟨C, ns.reverse, ds.reverse⟩ r m1) : Ws W E (tRs C ns W ta) r m P := fun s H De e z g =>
  h s H _ e z fun ds m1 vs H1 s1 mu1 r1 ⟨hl, h1000, q⟩ => by
    refine ⟨by rw [← r1.length]; exact Nat.le_of_ble_eq_true h1000, fun a ha => ?_⟩
    refine ⟨a, vs, by rw [List.append_nil], by rw [← r1.length, hl], upd_same, fun d H' hd hne hs h1 h2 => ⟨rfl, d, _, h1, h2, ?_, ?_⟩⟩
    · rw [upd_ne hne] at hd
      exact hd
    · rw [upd_ne hne] at hd
      have hd' : H1 d = none := hd
      have st : Stp (dom m1) H1 (dom m1) (upd (del H' a) d (.xd (ns.zip vs).reverse)) := fun b o hb hm => by
        have nbd : b ≠ d := fun e => by rw [e, hd'] at hb; cases hb
        have nba : b ≠ a := fun e => by rw [e, ha] at hb; cases hb
        rw [upd_ne nbd, del_ne nba, hs b nba nbd, upd_ne nba]
        exact ⟨hb, hm⟩
      have mu : MutR m1 (upd (del H' a) d (.xd (ns.zip vs).reverse)) := ⟨mu1.nd, fun q hq => (mu1.at_ q hq).mono st fun u hu => by
        have nbd : q.1 ≠ d := fun e => by rw [e, hd'] at hu; cases hu
        have nba : q.1 ≠ a := fun e => by rw [e, ha] at hu; cases hu
        rw [upd_ne nbd, del_ne nba, hs _ nba nbd, upd_ne nba]
        exact hu⟩
      have nd : ¬ dom m1 d := fun zz => by obtain ⟨u, hu⟩ := mu1.there zz; rw [hd'] at hu; cases hu
      refine z _ r m1 _ _ s _ (s1.trans st) (e.step (s1.trans st) mu) ⟨rfl, .inr ⟨d, _, rfl, upd_same, nd, ?_⟩⟩ q
      exact RepF.rev (repF_zip hl (r1.mono st))
end

/-! ### try: .. except X as n: .. -/
abbrev wNo : WX := fun _ _ _ _ => False
abbrev eNo : ET := fun _ _ _ => False
theorem takes0N {X : Cx} : L2N.Takes X wNo := fun _ _ x => by
  obtain ⟨_, _, _, _, _, _, _, _, _, _, _, _, _, _, _, _, z⟩ := x
  exact z.elim
abbrev pX (P : DEnds) (i : Nat) : DEnds := { nx := fun r m => P.nx (r.set i none) m, rt := P.rt, bk := fun r m => P.bk (r.set i none) m, ct := fun r m => P.ct (r.set i none) m }
def eAs (K : PySem.W.Frag) (c : Value) (i : Nat) (ts : Addr → Value → Option Addr → TS) (P : DEnds) (E : ET) : ET := fun x r' m' => ∃ b, PySem.W.exmOne K (.ref x.C) c = some b ∧
  (b = true → ∀ a dd, Ws wNo eNo (ts a (.ref x.C) dd) (r'.set i (some (.exc a dd x.C x.ns x.ds))) m' (pX P i)) ∧ (b = false → E x r' m')
section
variable {W : WX} {E : ET} {r : Rho} {m : Mu} {K : PySem.W.Frag} {P : DEnds} {c : Value} {i : Nat} {tb : WX → TS} {ts : Addr → Value → Option Addr → TS} {te : TE} {G : Gx} {KT' : KT}
theorem repX_exc {M : Addr → Prop} {H : Hp} {x : Ex} {cls : Value} {dd : Option Addr} {a : Addr} (h : RepX M H x cls dd) : Rep M H (.exc a dd x.C x.ns x.ds) (.ref a) := by
  obtain ⟨e, h⟩ := h
  obtain ⟨C, ns, ds⟩ := x
  rcases h with ⟨rfl, h1, h2⟩ | ⟨d, gs, rfl, h2, h3, h4⟩
  · have h1' : ns = [] := h1
    have h2' : ds = [] := h2
    subst h1' h2'
    exact .excN
  · exact .excS h3 h2 h4
def tTry (K : PySem.W.Frag) (c : Value) (i : Nat) (ts : Addr → Value → Option Addr → TS) (tb : WX → TS) (W : WX) : TS := fun D σ H => tb (wAs K c i ts W D) D σ H
theorem ps_tryD {X : Cx} {x n : Str} {b₀ : Stmt} {body suite : List Stmt} {np pos pos' : Pos} (hs : X.stack = X.env :: X.outer) (hf : X.env.frame = some X.env.locals) (hN : X.N.Nodup) (hi : X.N[i]? = some n) (hln : X.env.kindOf n = some .local) (hc : Names X x c) (tk : L2N.Takes X W)
    (hb : ∀ (W : WX) (pn : List (Addr × Obj)) (xe : Value → Shared → Prop), L2N.Takes (X.tr pn xe) W → PassesOwn (model X.prog X.w) X.A X.env xe → PSs (X.tr pn xe) body (tb W))
    (hsu : ∀ (a : Addr) (oe : Obj) (cls : Value) (d : Option Addr) (pn : List (Addr × Obj)), L2N.Zn cls d oe → (∃ vs, oe.data = .fields vs) → PSs (X.suite a ((a, oe) :: pn)) (b₀ :: suite) (ts a cls d)) :
    PS X (.Try body [.ExceptHandler (some (.Name x np)) (some n) (b₀ :: suite) pos'] [] [] pos) (tTry X.K c i ts tb W) := L2N.ps_try_as hs hf hN hi hln hc tk hb hsu
theorem ws_try (h : ∀ W', Ws W' (eAs K c i ts P E) (tb W') r m P) : Ws W E (tTry K c i ts tb W) r m P := fun s H De e z g => by
  refine h (wAs K c i ts W De) s H De e ?_ g
  intro x r' m' cls dd s' H' st er rx ⟨b, hb, ht, hf⟩
  obtain rfl := rx.1
  refine ⟨b, hb, fun hbt a ha => ?_, fun hbf => z x r' m' _ dd s' H' st er rx (hf hbf)⟩
  have g' := g.step st
  refine ht hbt a dd _ H' _ (er.put (repX_exc rx)) (fun _ _ _ _ _ _ _ _ _ _ q => q.elim) ?_
  have back : ∀ {r2 : Rho} {m2 : Mu} {s2 : L2.St} {H2 : Hp}, EnvR r2 m2 s2 H2 → EnvR (r2.set i none) m2 (s2.set i none) H2 := fun e2 => ⟨e2.env.set (.none _) i, e2.mu⟩
  exact ⟨fun r2 m2 s2 H2 a2 b2 q => g'.nx _ m2 _ H2 a2 (back b2) q, g'.rt, fun r2 m2 s2 H2 a2 b2 q => g'.bk _ m2 _ H2 a2 (back b2) q, fun r2 m2 s2 H2 a2 b2 q => g'.ct _ m2 _ H2 a2 (back b2) q⟩
/-- e.f in the suite -/
def tXfD (K : PySem.W.Frag) (a : Addr) (cls : Value) (d : Option Addr) (f : Str) (te : TE) : TE := fun σ H Q => ∃ C, XfC K C ∧ PySem.W.findIn K (.ref C) f = some none ∧ tXf a cls d C f te σ H Q
theorem pe_xfD {X : Cx} {a : Addr} {oe : Obj} {cls : Value} {d : Option Addr} {pn : List (Addr × Obj)} {e : Expr} {te : TE} {pos : Pos} {f : Str}
    (hz : L2N.Zn cls d oe) (hf : ∃ vs, oe.data = .fields vs) (he : PE (X.suite a ((a, oe) :: pn)) e te) (hb : attributeBase e f X.env (eval e X.env) = eval e X.env := by rfl) :
    PE (X.suite a ((a, oe) :: pn)) (.Attribute e f pos) (tXfD X.K a cls d f te) := ⟨fun pins s σ H Q I ⟨C, T, hno, h⟩ => (pe_xf T hno hz.zc hf he hb).run pins s σ H Q I h⟩
theorem we_xf {a C : Addr} {dd : Option Addr} {f : Str} (T : XfC G.K C) (hno : PySem.W.findIn G.K (.ref C) f = some none)
    (h : We W E te r m fun d m1 => ∃ ns ds x, d = .exc a dd C ns ds ∧ fix f ns ds = some x ∧ KT' x m1) : We W E (tXfD G.K a (.ref C) dd f te) r m KT' := fun s H Q e z g =>
  ⟨C, T, hno, h s H _ e z fun d m1 v H1 s1 mu1 r1 ⟨ns, ds, x, hd, hx, k⟩ => by
    subst hd
    cases r1 with
    | excN => simp [fix] at hx
    | excS mm hh rf =>
      obtain ⟨y, h1, h2⟩ := rf.look hx
      exact ⟨rfl, rfl, _, _, y, rfl, hh, h1, g x m1 y H1 s1 mu1 h2 k⟩⟩
end
end DL
set_option Elab.async false
set_option linter.all false
set_option maxRecDepth 100000
/-! DL8: the script, the ends, the steps as a word. -/
namespace DL
open PySem PySem.Spec L2
open PyProof.Rows hiding St
theorem hotc {cls : Value} {d : Option Addr} {oe : Obj} (hz : L2N.Zn cls d oe) (hf : ∃ vs, oe.data = .fields vs) : ∃ vs, oe.data = .fields vs ∧ vs[2]? = some .none := by
  obtain ⟨vs, h⟩ := hf
  exact ⟨vs, h, hz.2.2 vs h⟩
/-- the script as the law gets it -/
inductive ScrD (KF : PySem.W.Frag) : D → List Int → Prop
  | lst {ns : List Int} : ScrD KF (.lst (ns.map D.int)) ns
  | ref {a : Addr} {ns : List Int} (h : ∀ H, SqL KF H a (ns.map V.int)) : ScrD KF (.ref a) ns
section
variable {W : WX} {E : ET} {r : Rho} {m : Mu} {K : KT} {G : Gx} {te : TE}
theorem we_slS {tl th : TO} (h : We W E te r m fun d m1 => ∃ ns, ScrD G.K d ns ∧ Wo W E tl r m1 fun lo m2 => Wo W E th r m2 fun hi m3 => K (.lst (cutD (ns.map D.int) lo hi)) m3) : We W E (tSl (rSlL G.K) te tl th) r m K := fun s H Q e z g =>
  h s H _ e z fun d m1 v H1 s1 mu1 r1 ⟨ns, sd, q⟩ => by
    refine q s H1 _ (e.step s1 mu1) (z.step s1) fun lo m2 H2 s2 mu2 q2 => ?_
    refine q2 s H2 _ ((e.step s1 mu1).step s2 mu2) ((z.step s1).step s2) fun hi m3 H3 s3 mu3 k => ?_
    have r3 := (r1.mono s2).mono s3
    cases sd with
    | lst =>
      cases r3 with
      | lst mm hh rs =>
        refine ⟨_, _, rfl, rd_l hh, fun p hp => ?_⟩
        exact g _ m3 _ _ (((s1.trans s2).trans s3).trans (Stp.new hp)) (mu3.new hp) (.lst (fun zz => by obtain ⟨u, hu⟩ := mu3.there zz; rw [hp] at hu; cases hu) (.inl upd_same) ((rs.cut lo hi).mono (Stp.new hp))) k
    | ref h =>
      cases r3
      refine ⟨_, _, rfl, h H3, fun p hp => ?_⟩
      exact g _ m3 _ _ (((s1.trans s2).trans s3).trans (Stp.new hp)) (mu3.new hp) (.lst (fun zz => by obtain ⟨u, hu⟩ := mu3.there zz; rw [hp] at hu; cases hu) (.inl upd_same) (((Reps.ints ns).cut lo hi).mono (Stp.new hp))) k
theorem scr_of {KF : PySem.W.Frag} {H : Hp} {a : Addr} {ns : List Int} (h : SqL KF H a (ns.map V.int)) : ∃ d, ScrD KF d ns ∧ Rep (dom []) H d (.ref a) := by
  rcases h with h | h
  · exact ⟨_, .lst, .lst dom_nil h (Reps.ints ns)⟩
  · exact ⟨_, .ref fun H' => .inr h, .ref a⟩
end
theorem cut63 {xs : List D} (h : xs.length ≤ 63) : cutD xs none (some 63) = xs := by
  unfold cutD
  have e1 : HT.sIx xs.length 0 none = 0 := rfl
  have e2 : HT.sIx xs.length xs.length (some 63) = xs.length := by
    rw [show (some (63 : Int)) = some ((63 : Nat) : Int) from rfl, HT.sIx_nat]
    omega
  rw [e1, e2, List.drop_zero, Nat.sub_zero, List.take_length]

theorem rH {k : Nat} {A : Around} {h : Option Value} (r : L2.Room k A) : L2H.RoomH k (A.mark h) := ⟨r.dp, r.un⟩
/-! ### sizes -/
theorem log2_of {x : Int} {n : Nat} (h : x.natAbs < 2 ^ n) (h0 : 0 < n) : x.natAbs.log2 < n := PySem.Flt.log2_lt_of h0 h
def Bd (n : Nat) (x : Int) : Prop := x.natAbs < 2 ^ n
theorem Bd.mono {a b : Nat} {x : Int} (h : Bd a x) (l : a ≤ b) : Bd b x := Nat.lt_of_lt_of_le h (Nat.pow_le_pow_right (by decide) l)
theorem Bd.mul {a b : Nat} {x y : Int} (h : Bd a x) (k : Bd b y) : Bd (a + b) (x * y) := wide_lt h k
theorem Bd.add {a : Nat} {x y : Int} (h : Bd a x) (k : Bd a y) : Bd (a + 1) (x + y) := by
  unfold Bd at *
  rw [Nat.pow_succ]
  omega
theorem Bd.sub {a : Nat} {x y : Int} (h : Bd a x) (k : Bd a y) : Bd (a + 1) (x - y) := by
  unfold Bd at *
  rw [Nat.pow_succ]
  omega
theorem Bd.neg {a : Nat} {x : Int} (h : Bd a x) : Bd a (-x) := by
  unfold Bd at *
  omega
theorem Bd.ok {a : Nat} {x : Int} (h : Bd a x) : x.natAbs.log2 ≤ a := by
  have := log2_of (n := a + 1) (h.mono (Nat.le_succ a)) (Nat.succ_pos a)
  omega
theorem Bd.mulX {a b : Nat} {x y : Int} (h : Bd a x) (k : Bd b y) (l : a + b < 100000000) : CMulX x y := by
  have := h.ok
  have := k.ok
  unfold CMulX
  omega
theorem Bd.divX {a : Nat} {x y : Int} (h : Bd a y) (n : y ≠ 0) (l : a < 9000) : CDivX x y := ⟨n, .inl (by have := h.ok; omega)⟩
theorem bd_lit {x : Int} {n : Nat} (h : x.natAbs.blt (2 ^ n) = true) : Bd n x := Nat.le_of_ble_eq_true h

/-! ### the pot that a law draws from -/
def PotM (p : Addr) (m0 m : Mu) : Prop := ∃ (cs : List Int) (i r : Int), m = (p, .lst [.lst (cs.map D.int), .int i, .int r]) :: m0 ∧ 0 ≤ i ∧ 0 ≤ r ∧ ∀ c ∈ cs, 0 ≤ c
def S_pot (KF : PySem.W.Frag) : SpecD := fun ds m K _ => ∃ d ns, ds = [d] ∧ ScrD KF d ns ∧ ns.length ≤ 63 ∧ ∀ p m', ¬ dom m p → PotM p m m' → K (.ref p) m'
def S_digit : SpecD := fun ds m K _ => ∃ p many m0, ds = [.ref p, .int many] ∧ 0 < many ∧ Bd 8000 many ∧ PotM p m0 m ∧ ∀ dg m', 0 ≤ dg → dg < many → PotM p m0 m' → K (.int dg) m'

theorem cx_G {G : Gx} {N : List Str} {qual : Str} {st : Stmt} {f : Addr} {cdv : Value} {A : Around} {outer : List Env} {s : Shared} {H : Hp} {F : XK} : Gx.of (cxG G N qual st f cdv A outer s H F) = G := rfl
theorem cx_K {G : Gx} {N : List Str} {qual : Str} {st : Stmt} {f : Addr} {cdv : Value} {A : Around} {outer : List Env} {s : Shared} {H : Hp} {F : XK} : (cxG G N qual st f cdv A outer s H F).K = G.K := rfl
theorem cxH_G {G : Gx} {N : List Str} {qual : Str} {st : Stmt} {f : Addr} {cdv : Value} {A : Around} {outer : List Env} {s : Shared} {H : Hp} {F : XK} {p : Addr × Obj} : Gx.of (cxGH G N qual st f cdv A outer s H F p) = G := rfl
theorem cxH_K {G : Gx} {N : List Str} {qual : Str} {st : Stmt} {f : Addr} {cdv : Value} {A : Around} {outer : List Env} {s : Shared} {H : Hp} {F : XK} {p : Addr × Obj} : (cxGH G N qual st f cdv A outer s H F p).K = G.K := rfl
/-- an item of a list of numbers -/
theorem atI_ints {cs : List Int} {i : Int} (h0 : 0 ≤ i) (h1 : i < (cs.length : Int)) : ∃ c, c ∈ cs ∧ atI (cs.map D.int) i = some (.int c) := by
  obtain ⟨n, rfl⟩ := Int.eq_ofNat_of_zero_le h0
  have hn : n < cs.length := by omega
  refine ⟨cs[n], List.getElem_mem hn, atI_nat ?_⟩
  rw [List.getElem?_map, List.getElem?_eq_getElem hn]
  rfl
theorem use_digit {p : Addr} {many : Int} {m m0 : Mu} {K : KT} {E : Ex → Mu → Prop} (h0 : 0 < many) (hb : Bd 8000 many) (hm : PotM p m0 m) (k : ∀ dg m', 0 ≤ dg → dg < many → PotM p m0 m' → K (.int dg) m') : S_digit [.ref p, .int many] m K E :=
  ⟨p, many, m0, rfl, h0, hb, hm, k⟩

section
variable {W : WX} {E : ET} {r : Rho} {m : Mu} {K : KT} {S : SpecD} {n : Nat} {t : TA} {C : Addr} {G : Gx} {te : TE}
theorem Wa.imp {KA KA' : List D → Mu → Prop} (h : Wa W E t r m KA) (k : ∀ ds m', KA ds m' → KA' ds m') : Wa W E t r m KA' := fun s H Q e z g => h s H Q e z fun ds m' vs H' a b c x => g ds m' vs H' a b c (k ds m' x)
theorem we_cl0 (h : Wa W E t r m fun ds m1 => ds.length = n ∧ S ds m1 K fun x m' => E x r m') : We W E (tCl n S [] W t) r m K :=
  we_cl rfl (h.imp fun ds m' k => by rw [List.append_nil]; exact k)
theorem we_mk0 (h : Wa W E t r m fun ds m1 => ds.length + 1 = n ∧ ∀ x, ¬ dom m1 x →
    S (.ref x :: ds) ((x, .ins C [] []) :: m1) (fun d m2 => ∃ ns fs, d = .non ∧ m2 = (x, .ins C ns fs) :: m1 ∧ K (.ins C ns fs) m1) fun ex m2 => ∃ o, m2 = (x, o) :: m1 ∧ E ex r m1) : We W E (tMk C n S [] W t) r m K :=
  we_mk rfl (h.imp fun ds m' k => by rw [List.append_nil]; exact k)
/-- one more argument by default -/
theorem we_mk1 {d1 : D} (hc : isC d1 = true) (h : Wa W E t r m fun ds m1 => ds.length + 1 + 1 = n ∧ ∀ x, ¬ dom m1 x →
    S (.ref x :: (ds ++ [d1])) ((x, .ins C [] []) :: m1) (fun d m2 => ∃ ns fs, d = .non ∧ m2 = (x, .ins C ns fs) :: m1 ∧ K (.ins C ns fs) m1) fun ex m2 => ∃ o, m2 = (x, o) :: m1 ∧ E ex r m1) : We W E (tMk C n S [d1] W t) r m K :=
  we_mk (by rw [List.all_cons, hc]; rfl) (h.imp fun ds m' k => ⟨by rw [List.length_append]; exact k.1, k.2⟩)
/-- a field of a fixed instance -/
theorem we_fldF {f : Str} (h : We W E te r m fun d m1 => ∃ C ns ds x, d = .ins C ns ds ∧ Cls G.K C ∧ NoAttr G.K C f ∧ fix f ns ds = some x ∧ K x m1) : We W E (tFld G.K te f) r m K :=
  we_fld (h.imp fun d m1 ⟨C, ns, ds, x, hd, q⟩ => ⟨C, ns, ds, x, by rw [hd]; exact .fixed, q⟩)
end
/-! ### Ratio: top, bottom -/
abbrev rat (C : Addr) (t b : Int) : D := .ins C ["top", "bottom"] [.int t, .int b]
theorem fix_top {a b : D} : fix "top" ["top", "bottom"] [a, b] = some a := by simp [fix]
theorem nbt : ¬ (("bottom" : Str) = "top") := by decide +kernel
theorem ntb : ¬ (("top" : Str) = "bottom") := by decide +kernel
theorem fix_bottom {a b : D} : fix "bottom" ["top", "bottom"] [a, b] = some b := by simp [fix, nbt]
structure RatC (K : PySem.W.Frag) (C : Addr) : Prop where
  ins : InsK K C
  at_ : NoAttr K C "top"
  ab : NoAttr K C "bottom"
section
variable {K : PySem.W.Frag} {KK : D → Prop} {C : Addr} {t b : Int}
theorem fld_top (R : RatC K C) (h : KK (.int t)) : ∃ C' ns ds x, rat C t b = .ins C' ns ds ∧ Cls K C' ∧ NoAttr K C' "top" ∧ fix "top" ns ds = some x ∧ KK x := ⟨_, _, _, _, rfl, R.ins.cl, R.at_, fix_top, h⟩
theorem fld_bottom (R : RatC K C) (h : KK (.int b)) : ∃ C' ns ds x, rat C t b = .ins C' ns ds ∧ Cls K C' ∧ NoAttr K C' "bottom" ∧ fix "bottom" ns ds = some x ∧ KK x := ⟨_, _, _, _, rfl, R.ins.cl, R.ab, fix_bottom, h⟩
end

theorem kit_ii {K : PySem.W.Frag} : PySem.W.kitOne K (.type "int") (.type "int") = some true := kit_ty (by decide +kernel)
theorem kit_ib {K : PySem.W.Frag} : PySem.W.kitOne K (.type "int") (.type "bool") = some false := kit_ty (by decide +kernel)
section
variable {K : PySem.W.Frag} {C : Addr} {m0 : Mu} {x : Addr} {d e : D} {N : Mu → Prop}
theorem cont_tb : (["top"] : List Str).contains "bottom" = false := by decide +kernel
theorem setN_top (R : RatC K C) (h : N ((x, .ins C ["top"] [d]) :: m0)) : ∃ p C' ns ds m3, D.ref x = .ref p ∧ At ((x, MO.ins C [] []) :: m0) p (.ins C' ns ds) ∧ Cls K C' ∧ NoAttr K C' "top" ∧ ns.contains "top" = false ∧ Nat.ble ns.length 900 = true ∧ Put ((x, MO.ins C [] []) :: m0) p (.ins C' (ns ++ [("top" : Str)]) (ds ++ [d])) m3 ∧ N m3 :=
  ⟨_, _, _, _, _, rfl, .head, R.ins.cl, R.at_, rfl, rfl, .head, h⟩
theorem setN_bottom (R : RatC K C) (h : N ((x, .ins C ["top", "bottom"] [d, e]) :: m0)) : ∃ p C' ns ds m3, D.ref x = .ref p ∧ At ((x, MO.ins C ["top"] [d]) :: m0) p (.ins C' ns ds) ∧ Cls K C' ∧ NoAttr K C' "bottom" ∧ ns.contains "bottom" = false ∧ Nat.ble ns.length 900 = true ∧ Put ((x, MO.ins C ["top"] [d]) :: m0) p (.ins C' (ns ++ [("bottom" : Str)]) (ds ++ [e])) m3 ∧ N m3 :=
  ⟨_, _, _, _, _, rfl, .head, R.ins.cl, R.ab, cont_tb, rfl, .head, h⟩
end
/-- what is left mutable at a return is let go -/
theorem MutR.dropn {H : Hp} : ∀ {m : Mu} (k : Nat), MutR m H → MutR (m.drop k) H
  | _, 0, h => h
  | [], _ + 1, h => h
  | _ :: m, k + 1, h => MutR.dropn (m := m) k h.drop
theorem dom_dropn {a : Addr} : ∀ {m : Mu} (k : Nat), dom (m.drop k) a → dom m a
  | _, 0, h => h
  | [], _ + 1, h => h
  | _ :: m, k + 1, h => dom_cons.mpr (.inr (dom_dropn (m := m) k h))
theorem Ws.shed {W : WX} {E : ET} {t : TS} {r : Rho} {m : Mu} {P : DEnds} (h : Ws W E t r m { P with rt := fun d m' => ∃ k, P.rt d (m'.drop k) }) : Ws W E t r m P := fun s H De e z g =>
  h s H De e z ⟨g.nx, fun d m' v H' a b c ⟨k, q⟩ => by
    have ls : Stp (dom m') H' (dom (m'.drop k)) H' := Stp.less fun a z => dom_dropn k z
    exact g.rt d _ v H' (a.trans ls) (b.dropn k) (c.mono ls) q, g.bk, g.ct⟩
/-- a list of a function's values, from the end -/
theorem atI_neg {α : Type} {xs : List α} {n : Nat} {v : α} (h0 : 0 < n) (hn : n ≤ xs.length) (h : xs[xs.length - n]? = some v) : atI xs (-(n : Int)) = some v := by
  unfold atI ixN
  rw [if_neg (by omega), if_pos (by omega)]
  have e : (-(n : Int) + (xs.length : Int)).toNat = xs.length - n := by omega
  rw [e]
  exact h
theorem range_at {f : Nat → D} {n i : Nat} (h : i < n) : ((List.range n).map f)[i]? = some (f i) := by
  rw [List.getElem?_map, List.getElem?_range h]
  rfl
theorem range_m1 {f : Nat → D} (k : Nat) : atI ((List.range (k + 1)).map f) (-1) = some (f k) :=
  atI_neg (n := 1) (by omega) (by simp) (by simp only [List.length_map, List.length_range]; exact range_at (by omega))
theorem range_m2 {f : Nat → D} (k : Nat) : atI ((List.range (k + 2)).map f) (-2) = some (f k) :=
  atI_neg (n := 2) (by omega) (by simp) (by simp only [List.length_map, List.length_range]; exact range_at (by omega))
theorem range_snoc {f : Nat → D} (k : Nat) : (List.range k).map f ++ [f k] = (List.range (k + 1)).map f := by
  rw [List.range_succ, List.map_append]
  rfl
theorem pe_gcD {X : Cx} {x : Str} {v : V} {pos : Pos} (hg : Gl X x) (h : ∃ u, X.mg x = some u ∧ RelV v u) (hd : (x == ("__debug__" : Str)) = false := by decide) : PE X (.Name x pos) (tC v) := by
  obtain ⟨u, hm, r⟩ := h
  exact pe_glob hg hm r hd
/-! ### the end -/
def S_law (KF : PySem.W.Frag) : SpecD := fun ds m KK _ => ∃ d ns, ds = [d] ∧ ScrD KF d ns ∧ ns.length ≤ 63 ∧ (∀ z ∈ ns, Builtin.Int.intBits z ≤ 1048576) ∧ m = [] ∧ ∀ m', KK (.bl true) m'
theorem walkB {l : PySem.W.OpenLaw} {k : Nat} {q : Program} {loose : List Str} {XP : (Str → Option Value) → Heap → Prop} {YP : World → Heap → Prop} {d : DefRec} {K : Params → PySem.W.Frag} {x : Str}
    (hn : l.most = some 63) (hdf : d.params.defaults = []) (hr : Room k callerA)
    (hY : ∀ (w : World) (h : Heap), YP w h → (K w.params).In h)
    (F : ∀ (w : World) (mg : Str → Option Value) (fa : Addr) (h : Heap), (K w.params).In h → h.Ns mainGlobals mg → mg d.name = some (.ref fa) →
      ∃ fd : FuncData, (∀ (s : Shared) (u : Value), BindsTo s fd ⟨[u], []⟩ [(x, u)]) ∧
        ∀ base : Heap, (K w.params).In base → base.Ns mainGlobals mg → FnOk l.prog w (K w.params) mg base (L2N.CX l.prog w) k fa fd [x] (spD 1 (S_law (K w.params)))) :
    PySem.W.WalkO q loose XP YP l.row.toRowW d [] (fun f vs => PySem.call f vs) :=
  L2.walk_ofB (n := 63) (k := k) (x := x) (CX := fun w => L2N.CX l.prog w) (sp := fun w => spD 1 (S_law (K w.params))) hn (by decide) hdf hr hY F
    (fun w H a ns hl hb _ h => by
      obtain ⟨dd, sd, rp⟩ := scr_of h
      exact ⟨[dd], [], fun d' _ => d' = .bl true, fun _ _ => False, rfl, .cons rp .nil, MutR.nil H, ⟨dd, ns, rfl, sd, hl, hb, rfl, fun m' => rfl⟩, fun d' m' v H' _ _ rp' e => by subst e; cases rp'; rfl, fun _ _ _ _ _ _ _ _ e => e.elim⟩)
    fun w H s e s' z => by
      obtain ⟨_, _, _, _, _, _, _, _, _, _, _, _, z⟩ := z
      exact z.elim
end DL
set_option Elab.async false
set_option linter.all false
set_option maxRecDepth 100000
/-! DL9: isinstance of a caught error; errors made without arguments; several except clauses. -/
namespace DL
open PySem PySem.Spec L2
open PyProof.Rows hiding St
/-- the class of a caught error, as isinstance asks -/
structure ExK (K : PySem.W.Frag) (D : Addr) : Prop where
  xf : XfC K D
  ic : PySem.W.isClsIn K D = true
  ha : PySem.W.findIn K (.ref D) "__class__" = some (some (.builtin "object.__class__"))
  hn : PySem.W.specialIn K (.builtin "object.__class__") "__get__" = some (some (.builtin "getset_descriptor.__get__"))
  ht : PySem.W.takesIn K (.builtin "object.__class__") = some true
  hm : PySem.W.mroIn K D (.type "object") = some true
def cIsE (K : PySem.W.Frag) (a : Addr) (cls : Value) (d : Option Addr) : OC := fun xs _ H Q => ∃ (D : Addr) (c : V) (u : Value) (b : Bool), cls = .ref D ∧ ExK K D ∧ xs = [.ref a, c] ∧ ClsV c u ∧ PySem.W.kitOne K (.ref D) u = some b ∧
  (d = none ∨ ∃ (dd : Addr) (gs : List (Str × V)), d = some dd ∧ H dd = some (.xd gs)) ∧ Q (.bl b) H
theorem cs_isE {X : Cx} {a : Addr} {cls : Value} {d : Option Addr} {oe : Obj} {pn : List (Addr × Obj)} (hz : L2N.Zn cls d oe) (hf : ∃ vs, oe.data = .fields vs) : CallS (X.suite a ((a, oe) :: pn)) (.builtin "isinstance") (cIsE X.K a cls d) := by
  intro pins s σ H xs us Q I ru h
  obtain ⟨D, c, u, b, rfl, T, rfl, hc, hk, hd, q⟩ := h
  cases ru with
  | cons ra rt =>
    cases rt with
    | cons rc rt =>
      cases rt
      cases ra
      have ec := hc.eq rc
      subst ec
      obtain ⟨hget, _⟩ := I.pin (a, oe) (List.mem_append_left _ List.mem_cons_self)
      obtain ⟨vs, hv⟩ := hf
      have hno : PySem.W.notCls oe = true := by unfold PySem.W.notCls; rw [hv] <;> rfl
      have J : ∃ od, PySem.W.InstAt s.heap a oe D od := by
        rcases hd with rfl | ⟨dd, gs, rfl, hx⟩
        · exact ⟨none, hget, hz.1, hno, by rw [hz.2.1]; trivial⟩
        · have hx : ObjOk X.prog X.w H s.heap dd (.xd gs) := I.hok dd _ hx
          obtain ⟨mA, hns, _⟩ := hx
          obtain ⟨od, ho, _⟩ := lookIn_ns hns
          exact ⟨some od, hget, hz.1, hno, by rw [hz.2.1]; exact ho⟩
      obtain ⟨od, J⟩ := J
      exact PySem.W.kia_one (PySem.W.kitx_exc T.ic T.xf.ga T.xf.gg T.xf.exC T.ha T.hn T.ht T.hm) I.kIn J hk (fun z => nomatch z) fun tk => ⟨.bl b, H, I.kept (t' := tk) fun _ _ z => z, rfl, q⟩
section
variable {W : WX} {E : ET} {r : Rho} {m : Mu} {K : KT} {G : Gx} {a C : Addr} {dd : Option Addr} {ns : List Str} {ds : List D}
theorem exc_dd {M : Addr → Prop} {H : Hp} {v : V} (h : Rep M H (.exc a dd C ns ds) v) : v = .ref a ∧ (dd = none ∨ ∃ (x : Addr) (gs : List (Str × V)), dd = some x ∧ H x = some (.xd gs)) := by
  cases h with
  | excN => exact ⟨rfl, .inl rfl⟩
  | excS mm hh rr => exact ⟨rfl, .inr ⟨_, _, rfl, hh⟩⟩
theorem wc_isEC {B : Addr} {b : Bool} (T : ExK G.K C) (hk : PySem.W.kitOne G.K (.ref C) (.ref B) = some b) (h : K (.bl b) m) : Wc W E (cIsE G.K a (.ref C) dd) [.exc a dd C ns ds, .ref B] r m K := fun s H Q vs e z rs g => by
  cases rs with
  | cons x tt =>
    cases tt with
    | cons c tt =>
      cases tt; cases c
      obtain ⟨rfl, hd⟩ := exc_dd x
      exact ⟨C, _, .ref B, b, rfl, T, rfl, .own B, hk, hd, g _ m _ H (Stp.refl _ _) e.mu (.bl _) h⟩
theorem wc_isET {n : String} {b : Bool} (T : ExK G.K C) (hk : PySem.W.kitOne G.K (.ref C) (.type n) = some b) (h : K (.bl b) m) : Wc W E (cIsE G.K a (.ref C) dd) [.exc a dd C ns ds, .ty n] r m K := fun s H Q vs e z rs g => by
  cases rs with
  | cons x tt =>
    cases tt with
    | cons c tt =>
      cases tt; cases c
      obtain ⟨rfl, hd⟩ := exc_dd x
      exact ⟨C, _, .type n, b, rfl, T, rfl, .ty n, hk, hd, g _ m _ H (Stp.refl _ _) e.mu (.bl _) h⟩
end
/-! ### raise C(), C an own class without an __init__ -/
structure Exc0 (G : Gx) (x : Str) (C : Addr) : Prop where
  q : PySem.W.excIn G.K C [.type "ValueError", .type "Exception", .type "BaseException", .type "object"] "ValueError.__new__" = true
  kC : PySem.W.keepIn G.K (.ref C) = true
  exC : PySem.W.subIn G.K (.ref C) (.type "BaseException") = some true
  tyC : PySem.W.typeIn G.K (.ref C) = some (.type "type")
  mgC : G.mg x = some (.ref C)
def tRs0 (C : Addr) (W : WX) : TS := fun _ σ H => W (.ref C) none σ H
section
variable {X : Cx} {W : WX} {E : ET} {x : Str} {C : Addr} {p pos pos' : Pos} {r : Rho} {m : Mu} {P : DEnds}
theorem pmkN_own0 (c : Exc0 (Gx.of X) x C) (hg : Gl X x) (hdb : (x == ("__debug__" : Str)) = false := by decide) : L2N.PMk X (.Call (.Name x p) [] [] pos) (fun _ H Q => Q (.ref C) none H) := by
  intro pins s σ H Q I h
  refine wpAny_Call_Name_kw (ld_glob I hg c.mgC ?_ hdb)
  refine PySem.W.callWith_K0 I.kIn c.kC ?_
  obtain ⟨bm, Na, nm, qn, bs, hdct, sn, sub, ab, col, dd, k0, k1, k2, k3, k5, mN, hC, hN, hni, T⟩ := exc_obj I.kIn c.q
  exact wpAny_call_exc_subT PySem.F.excBase_ValueError T hC hN hni (fun h' e hm => L2N.mk_of I hm (raises_own c.exC c.tyC) h (I.hok.gone hm.new)) (by show 0 ≤ sizeLine; exact Nat.zero_le _)
theorem ps_rs0 (c : Exc0 (Gx.of X) x C) (hc : X.calm = true) (tk : L2N.Takes X W) (hg : Gl X x) (hdb : (x == ("__debug__" : Str)) = false := by decide) :
    PS X (.Raise (some (.Call (.Name x p) [] [] pos)) none pos') (tRs0 C W) := L2N.ps_raise hc tk (pmkN_own0 c hg hdb)
theorem ws_rs0 (h : E ⟨C, [], []⟩ r m) : Ws W E (tRs0 C W) r m P := fun s H De e z g => z _ r m _ _ s H (Stp.refl _ _) e ⟨rfl, .inl ⟨rfl, rfl, rfl⟩⟩ h
end
/-! ### several clauses: except C1 as n: .., except C2 as n: .. -/
end DL
set_option Elab.async false
set_option linter.all false
/-! MR: fractions in lowest terms, Euclid's turns. -/
namespace DL
open PySem PySem.Spec L2
/-! ### lowest terms -/
def gc (t b : Int) : Int := (Nat.gcd t.natAbs b.natAbs : Nat)
def rT (t b : Int) : Int := if b < 0 then -t / gc t b else t / gc t b
def rB (t b : Int) : Int := if b < 0 then -b / gc t b else b / gc t b
theorem gc_pos {t b : Int} (h : b ≠ 0) : 0 < gc t b := by
  have : 0 < Nat.gcd t.natAbs b.natAbs := Nat.gcd_pos_of_pos_right _ (by omega)
  unfold gc; omega
theorem gc_dvd1 (t b : Int) : gc t b ∣ t := Int.ofNat_dvd_left.mpr (Nat.gcd_dvd_left _ _)
theorem gc_dvd2 (t b : Int) : gc t b ∣ b := Int.ofNat_dvd_left.mpr (Nat.gcd_dvd_right _ _)
theorem gc_bd {t b : Int} {n : Nat} (h : b ≠ 0) (hb : Bd n b) : Bd n (gc t b) := by
  have : Nat.gcd t.natAbs b.natAbs ≤ b.natAbs := Nat.le_of_dvd (by omega) (Nat.gcd_dvd_right _ _)
  unfold Bd gc at *
  omega
theorem fdiv_pos {a g : Int} (h : 0 < g) : a.fdiv g = a / g := Int.fdiv_eq_ediv_of_nonneg _ (by omega)
theorem fdiv_neg' {a g : Int} (h : 0 < g) (d : g ∣ a) : a.fdiv (-g) = -a / g := by
  obtain ⟨c, rfl⟩ := d
  have e1 : g * c = (-g) * (-c) := by rw [Int.neg_mul_neg]
  have e2 : -(g * c) = g * (-c) := by rw [Int.mul_neg]
  rw [e2, Int.mul_ediv_cancel_left _ (by omega), e1, Int.mul_comm]
  exact Int.mul_fdiv_cancel _ (by omega)
/-- t = g * rT up to the sign of b -/
theorem rat_eqs {t b : Int} (h : b ≠ 0) : ∃ g : Int, g ≠ 0 ∧ t = g * rT t b ∧ b = g * rB t b ∧ 0 < rB t b := by
  have gp := gc_pos (t := t) h
  obtain ⟨c, hc⟩ := gc_dvd1 t b
  obtain ⟨d, hd⟩ := gc_dvd2 t b
  by_cases hb : b < 0
  · refine ⟨-gc t b, by omega, ?_, ?_, ?_⟩
    · unfold rT; rw [if_pos hb]
      have : -t / gc t b = -c := by
        have e : -t = gc t b * (-c) := by rw [Int.mul_neg, ← hc]
        rw [e, Int.mul_ediv_cancel_left _ (by omega)]
      rw [this, Int.neg_mul_neg]; exact hc
    · unfold rB; rw [if_pos hb]
      have : -b / gc t b = -d := by
        have e : -b = gc t b * (-d) := by rw [Int.mul_neg, ← hd]
        rw [e, Int.mul_ediv_cancel_left _ (by omega)]
      rw [this, Int.neg_mul_neg]; exact hd
    · unfold rB; rw [if_pos hb]
      exact Int.ediv_pos_of_pos_of_dvd (by omega) (by omega) (Int.dvd_neg.mpr ⟨d, hd⟩)
  · refine ⟨gc t b, by omega, ?_, ?_, ?_⟩
    · unfold rT; rw [if_neg hb]
      have : t / gc t b = c := by
        have e : t = gc t b * c := hc
        rw [show t / gc t b = (gc t b * c) / gc t b by rw [← e], Int.mul_ediv_cancel_left _ (by omega)]
      rw [this]; exact hc
    · unfold rB; rw [if_neg hb]
      have : b / gc t b = d := by
        have e : b = gc t b * d := hd
        rw [show b / gc t b = (gc t b * d) / gc t b by rw [← e], Int.mul_ediv_cancel_left _ (by omega)]
      rw [this]; exact hd
    · unfold rB; rw [if_neg hb]
      exact Int.ediv_pos_of_pos_of_dvd (by omega) (by omega) ⟨d, hd⟩
theorem natAbs_div {a : Int} {g : Nat} (h : 0 < g) (d : (g : Int) ∣ a) : (a / (g : Int)).natAbs = a.natAbs / g := by
  obtain ⟨c, rfl⟩ := d
  rw [Int.mul_ediv_cancel_left _ (by omega), Int.natAbs_mul, Int.natAbs_natCast, Nat.mul_div_cancel_left _ h]
theorem rat_gcd {t b : Int} (h : b ≠ 0) : Nat.gcd (rT t b).natAbs (rB t b).natAbs = 1 := by
  have gp : 0 < Nat.gcd t.natAbs b.natAbs := Nat.gcd_pos_of_pos_right _ (by omega)
  have e1 : (rT t b).natAbs = t.natAbs / Nat.gcd t.natAbs b.natAbs := by
    unfold rT
    split
    · have := natAbs_div (a := -t) gp (Int.dvd_neg.mpr (gc_dvd1 t b))
      rw [Int.natAbs_neg] at this; exact this
    · exact natAbs_div gp (gc_dvd1 t b)
  have e2 : (rB t b).natAbs = b.natAbs / Nat.gcd t.natAbs b.natAbs := by
    unfold rB
    split
    · have := natAbs_div (a := -b) gp (Int.dvd_neg.mpr (gc_dvd2 t b))
      rw [Int.natAbs_neg] at this; exact this
    · exact natAbs_div gp (gc_dvd2 t b)
  rw [e1, e2]
  rw [Nat.gcd_div (Nat.gcd_dvd_left _ _) (Nat.gcd_dvd_right _ _)]
  exact Nat.div_self gp
theorem rat_bd {t b : Int} {n : Nat} (h : b ≠ 0) (ht : Bd n t) : Bd n (rT t b) := by
  obtain ⟨g, hg, e, _⟩ := rat_eqs (t := t) h
  have : t.natAbs = g.natAbs * (rT t b).natAbs := by rw [← Int.natAbs_mul, ← e]
  have hp : 1 ≤ g.natAbs := by omega
  have : (rT t b).natAbs ≤ t.natAbs := by
    rw [this]
    calc (rT t b).natAbs = 1 * (rT t b).natAbs := (Nat.one_mul _).symm
      _ ≤ _ := Nat.mul_le_mul_right _ hp
  unfold Bd at *
  omega
theorem rat_bdB {t b : Int} {n : Nat} (h : b ≠ 0) (ht : Bd n b) : Bd n (rB t b) := by
  obtain ⟨g, hg, _, e, _⟩ := rat_eqs (t := t) h
  have : b.natAbs = g.natAbs * (rB t b).natAbs := by rw [← Int.natAbs_mul, ← e]
  have hp : 1 ≤ g.natAbs := by omega
  have : (rB t b).natAbs ≤ b.natAbs := by
    rw [this]
    calc (rB t b).natAbs = 1 * (rB t b).natAbs := (Nat.one_mul _).symm
      _ ≤ _ := Nat.mul_le_mul_right _ hp
  unfold Bd at *
  omega
/-! ### Euclid's turns -/
def Eu (a k x y : Nat) : Prop := (k = 0 ∧ x < 2 ^ a ∧ y < 2 ^ a) ∨ (1 ≤ k ∧ k ≤ a + a + 1 ∧ y < x ∧ x * y * 2 ^ (k - 1) < 2 ^ (a + a))
theorem Eu.step {a k x y : Nat} (h : Eu a k x y) (hy : 0 < y) : Eu a (k + 1) y (x % y) := by
  have hm := Nat.mod_lt x hy
  rcases h with ⟨rfl, h1, h2⟩ | ⟨h1, h2, h3, h4⟩
  · refine .inr ⟨by omega, by omega, hm, ?_⟩
    rw [show (0 + 1 - 1 : Nat) = 0 from rfl, Nat.pow_zero, Nat.mul_one, Nat.pow_add]
    exact Nat.mul_lt_mul'' h2 (Nat.lt_of_le_of_lt (Nat.mod_le _ _) h1)
  · have hx : 1 ≤ x * y := Nat.mul_pos (by omega) hy
    have l1 : 2 ^ (k - 1) < 2 ^ (a + a) := Nat.lt_of_le_of_lt (by
      calc 2 ^ (k - 1) = 1 * 2 ^ (k - 1) := (Nat.one_mul _).symm
        _ ≤ x * y * 2 ^ (k - 1) := Nat.mul_le_mul_right _ hx) h4
    have l2 : k - 1 < a + a := (Nat.pow_lt_pow_iff_right (by decide)).mp l1
    refine .inr ⟨by omega, by omega, hm, ?_⟩
    have e : 2 ^ (k + 1 - 1) = 2 * 2 ^ (k - 1) := by
      rw [show k + 1 - 1 = (k - 1) + 1 by omega, Nat.pow_succ, Nat.mul_comm]
    have two : 2 * (x % y) ≤ x := by
      have e1 := Nat.div_add_mod x y
      have q : 1 ≤ x / y := (Nat.one_le_div_iff hy).mpr (by omega)
      have : y * 1 ≤ y * (x / y) := Nat.mul_le_mul_left _ q
      omega
    calc y * (x % y) * 2 ^ (k + 1 - 1) = y * (2 * (x % y)) * 2 ^ (k - 1) := by rw [e]; ac_rfl
      _ ≤ y * x * 2 ^ (k - 1) := Nat.mul_le_mul_right _ (Nat.mul_le_mul_left _ two)
      _ = x * y * 2 ^ (k - 1) := by rw [Nat.mul_comm y x]
      _ < _ := h4
theorem Eu.early {a k x y : Nat} (h : Eu a k x y) (hk : a + a + 1 < k) : False := by
  rcases h with ⟨rfl, _⟩ | ⟨_, h, _⟩ <;> omega

/-- lowest terms stay -/
theorem rat_low {t b : Int} (h : 0 < b) (g : Nat.gcd t.natAbs b.natAbs = 1) : rT t b = t ∧ rB t b = b := by
  have e : gc t b = 1 := by
    unfold gc
    rw [g]
    rfl
  unfold rT rB
  rw [if_neg (by omega), if_neg (by omega), e, Int.ediv_one, Int.ediv_one]
  exact ⟨rfl, rfl⟩
structure Lo (a : Nat) (t b : Int) : Prop where
  pos : 0 < b
  gcd : Nat.gcd t.natAbs b.natAbs = 1
  bt : Bd a t
  bb : Bd a b
theorem lo_rat {a : Nat} {t b : Int} (h0 : b ≠ 0) (ht : Bd a t) (hb : Bd a b) : Lo a (rT t b) (rB t b) := by
  obtain ⟨g, _, _, _, hp⟩ := rat_eqs (t := t) h0
  exact ⟨hp, rat_gcd h0, rat_bd h0 ht, rat_bdB h0 hb⟩
/-- the same number, both in lowest terms -/
theorem low_eq {t b x y : Int} (hb : 0 < b) (hy : 0 < y) (g : Nat.gcd t.natAbs b.natAbs = 1) (k : Nat.gcd x.natAbs y.natAbs = 1) (e : t * y = x * b) : t = x ∧ b = y := by
  have e' : t.natAbs * y.natAbs = x.natAbs * b.natAbs := by rw [← Int.natAbs_mul, ← Int.natAbs_mul, e]
  have d1 : b.natAbs ∣ y.natAbs := by
    have : b.natAbs ∣ t.natAbs * y.natAbs := ⟨x.natAbs, by rw [e', Nat.mul_comm]⟩
    exact (Nat.Coprime.symm g).dvd_of_dvd_mul_left this
  have d2 : y.natAbs ∣ b.natAbs := by
    have : y.natAbs ∣ x.natAbs * b.natAbs := ⟨t.natAbs, by rw [← e', Nat.mul_comm]⟩
    exact (Nat.Coprime.symm k).dvd_of_dvd_mul_left this
  have eb : b.natAbs = y.natAbs := Nat.dvd_antisymm d1 d2
  have ey : b = y := by omega
  subst ey
  exact ⟨Int.eq_of_mul_eq_mul_right (by omega) e, rfl⟩
theorem rat_scale {a b k : Int} (hb : b ≠ 0) (hk : k ≠ 0) : rT (a * k) (b * k) = rT a b ∧ rB (a * k) (b * k) = rB a b := by
  have hbk : b * k ≠ 0 := Int.mul_ne_zero hb hk
  obtain ⟨g, hg, e1, e2, p1⟩ := rat_eqs (t := a) hb
  obtain ⟨h, hh, e3, e4, p2⟩ := rat_eqs (t := a * k) hbk
  refine low_eq p2 p1 (rat_gcd hbk) (rat_gcd hb) ?_
  refine Int.eq_of_mul_eq_mul_left (Int.mul_ne_zero hh hg) ?_
  generalize rT (a * k) (b * k) = A at *
  generalize rB (a * k) (b * k) = B at *
  generalize rT a b = P at *
  generalize rB a b = Q at *
  subst e1 e2
  grind
theorem Bd.addS {a b : Nat} {x y : Int} (h : Bd a x) (k : Bd b y) : Bd (a + b + 1) (x + y) := (h.mono (Nat.le_add_right a b)).add (k.mono (Nat.le_add_left b a))
theorem Bd.subS {a b : Nat} {x y : Int} (h : Bd a x) (k : Bd b y) : Bd (a + b + 1) (x - y) := (h.mono (Nat.le_add_right a b)).sub (k.mono (Nat.le_add_left b a))
theorem Ws.cut {W : WX} {E : ET} {t : TS} {r : Rho} {m : Mu} {P : DEnds} (I : Rho → Mu → Prop) (h : Ws W E t r m { P with nx := I }) (k : ∀ r' m', I r' m' → P.nx r' m') : Ws W E t r m P := fun s H De e z g =>
  h s H De e z ⟨fun r' m' s' H' a b q => g.nx r' m' s' H' a b (k r' m' q), g.rt, g.bk, g.ct⟩
end DL
set_option Elab.async false
set_option linter.all false
set_option maxRecDepth 100000
/-! DL10: short words for methods and own operators. -/
namespace DL
open PySem PySem.Spec L2
open PyProof.Rows hiding St
section
variable {W : WX} {E : ET} {r : Rho} {m : Mu} {K : KT} {G : Gx} {t : TA} {j k n : Nat} {C : Addr} {ns : List Str} {ds : List D} {S : SpecD} {dd : List D} {mt : Str}
theorem mt_of (M : Met G k C ns mt n S dd) (cs : dd.all isC = true) (hk : k ≤ j) (h : Wa W E t r m fun es m2 => (D.ins C ns ds :: (es ++ dd)).length = n ∧ S (D.ins C ns ds :: (es ++ dd)) m2 K fun x m' => E x r m') :
    ∃ (k n : Nat) (C' : Addr) (ns' : List Str) (S : SpecD) (dd : List D), Met G k C' ns' mt n S dd ∧ dd.all isC = true ∧ k ≤ j ∧ InsD (D.ins C ns ds) m C' ns' ∧
    Wa W E t r m fun es m2 => (D.ins C ns ds :: (es ++ dd)).length = n ∧ S (D.ins C ns ds :: (es ++ dd)) m2 K fun x m' => E x r m' := ⟨k, n, C, ns, S, dd, M, cs, hk, .fixed, h⟩
theorem mt_of0 (M : Met G k C ns mt n S []) (hk : k ≤ j) (h : Wa W E t r m fun es m2 => es.length + 1 = n ∧ S (D.ins C ns ds :: es) m2 K fun x m' => E x r m') :
    ∃ (k n : Nat) (C' : Addr) (ns' : List Str) (S : SpecD) (dd : List D), Met G k C' ns' mt n S dd ∧ dd.all isC = true ∧ k ≤ j ∧ InsD (D.ins C ns ds) m C' ns' ∧
    Wa W E t r m fun es m2 => (D.ins C ns ds :: (es ++ dd)).length = n ∧ S (D.ins C ns ds :: (es ++ dd)) m2 K fun x m' => E x r m' :=
  mt_of M rfl hk (h.imp fun es m2 k => by
    rw [List.append_nil]
    exact k)
variable {d d' : D} {ns' : List Str} {ds' : List D}
theorem w1_negO (O : Opr G k C "__neg__" 1 S) (hk : k ≤ j) (i : FldD d m C ns ds) (h : S [d] m K fun x m' => E x r m') : W1 W E (oNeg G j W) d r m K := fun s H Q v e z rv g => .inr (w1_own O hk i h s H Q v e z rv g)
theorem w2_addO (O : Opr G k C "__add__" 2 S) (hk : k ≤ j) (i : FldD d m C ns ds) (i' : FldD d' m C ns' ds') (h : S [d, d'] m K fun x m' => E x r m') : W2 W E (oAdd G j W) d d' r m K := fun s H Q a b e z ra rb g => .inr (.inr (.inr (.inr (w2_own O hk i i' h s H Q a b e z ra rb g))))
theorem w2_subO (O : Opr G k C "__sub__" 2 S) (hk : k ≤ j) (i : FldD d m C ns ds) (i' : FldD d' m C ns' ds') (h : S [d, d'] m K fun x m' => E x r m') : W2 W E (oSub G j W) d d' r m K := fun s H Q a b e z ra rb g => .inr (w2_own O hk i i' h s H Q a b e z ra rb g)
theorem w2_mulO (O : Opr G k C "__mul__" 2 S) (hk : k ≤ j) (i : FldD d m C ns ds) (i' : FldD d' m C ns' ds') (h : S [d, d'] m K fun x m' => E x r m') : W2 W E (oMul G j W) d d' r m K := fun s H Q a b e z ra rb g => .inr (.inr (w2_own O hk i i' h s H Q a b e z ra rb g))
end
end DL
set_option Elab.async false
set_option linter.all false
set_option maxRecDepth 100000
/-! DL11: tests within an except suite; what isinstance and except answer of own classes. -/
namespace DL
open PySem PySem.Spec L2
open PyProof.Rows hiding St
theorem pt_trS {X : Cx} {a : Addr} {pn : List (Addr × Obj)} {e : Expr} {te : TE} (ha : PE (X.suite a pn) e te) (he : ∀ whole, isTrue e (X.suite a pn).env whole = (do let v ← whole; standAt e.pos; holding [v] (truthy v)) := by intro _; rfl) : PT (X.suite a pn) e (tTr X.K te) := pt_tr ha he
theorem pe_isE {X : Cx} {a : Addr} {cls : Value} {d : Option Addr} {oe : Obj} {pn : List (Addr × Obj)} {e : Expr} {es : List Expr} {t : TA} {p pos : Pos} (hz : L2N.Zn cls d oe) (hf : ∃ vs, oe.data = .fields vs) (hm : X.mg "isinstance" = none) (ha : PA (X.suite a ((a, oe) :: pn)) (e :: es) t)
    (hg : Gl (X.suite a ((a, oe) :: pn)) "isinstance" := by rfl)
    (he : starEach (e :: es) X.env = (false, eval e X.env) :: starEach es X.env := by rfl) (hpl : (backTo pos (starEach es X.env)).any (·.1) = false := by rfl) : PE (X.suite a ((a, oe) :: pn)) (.Call (.Name "isinstance" p) (e :: es) [] pos) (tC2 (cIsE X.K a cls d) t) :=
  pe_cb (cs_isE hz hf) hg hm (by decide +kernel) ha (by decide) (by decide) he hpl
section
variable {K : PySem.W.Frag} {S O : Addr}
theorem kit_self : PySem.W.kitOne K (.ref S) (.ref S) = some true := by
  unfold PySem.W.kitOne
  rw [if_pos]
  simp
theorem kit_no (hx : PySem.W.subIn K (.ref S) (.ref S) = some true) (h2 : PySem.W.isClsIn K O = true) (h3 : PySem.W.typeIn K (.ref O) = some (.type "type")) (h4 : PySem.W.subIn K (.ref S) (.ref O) = some false) : PySem.W.kitOne K (.ref S) (.ref O) = some false := by
  have ne : ¬ ((Value.ref S == Value.ref O) = true) := fun z => by
    have e : S = O := by simpa using z
    subst e
    rw [hx] at h4
    cases h4
  have e2 : ((PySem.W.clsIn K O).isSome && PySem.W.typeIn K (.ref O) == some (.type "type")) = true := by
    have h2' : (PySem.W.clsIn K O).isSome = true := h2
    rw [h2', h3] <;> rfl
  unfold PySem.W.kitOne
  rw [if_neg ne]
  show (if ((PySem.W.clsIn K O).isSome && PySem.W.typeIn K (.ref O) == some (.type "type")) = true then PySem.W.subIn K (.ref S) (.ref O) else none) = some false
  rw [if_pos e2]
  exact h4
theorem kit_val (h : PySem.W.subIn K (.ref S) (.type "ValueError") = some true) : PySem.W.kitOne K (.ref S) (.type "ValueError") = some true := h
end
end DL
set_option Elab.async false
set_option linter.all false
set_option maxRecDepth 100000
/-! DL12: in, by an own __contains__. -/
namespace DL
open PySem PySem.Spec L2
open PyProof.Rows hiding St
section
variable {X : Cx} {W : WX} {E : ET} {r : Rho} {m : Mu} {K : KT} {G : Gx} {j k : Nat} {C : Addr} {ns : List Str} {ds : List D} {S : SpecD} {d d' : D}
def oInO (G : Gx) (j : Nat) (W : WX) : O2 := fun x y σ H Q => ∃ (a C dx : Addr) (fs : List (Str × V)) (k : Nat) (S : SpecD), y = .ref a ∧ H a = some (.ins C dx fs) ∧ k ≤ j ∧ Opr G k C "__contains__" 2 S ∧ spD 2 S [y, x] H (fun v H' => ∃ b, v = .bl b ∧ Q (.bl b) H') (WE W σ)
theorem os_inO (hr : Room j X.A) (tk : L2N.Takes X W) : OpS X (compareOp .In) (oInO (Gx.of X) j W) := by
  intro pins s σ H x y u v Q I rx ry h
  obtain ⟨a, C, dx, fs, k, S, rfl, ha, hk, O, q⟩ := h
  obtain rfl : v = Value.ref a := ry
  obtain ⟨f, ⟨⟨fd, ps, ds, F, bd, d⟩, cs⟩, h1, h2⟩ := O.ex
  obtain ⟨od, J⟩ := inst_of I ha
  obtain ⟨m, fr⟩ := I.fr
  refine PySem.W.in_K fr I.ok.mod.kin J h1 h2 ?_
  refine wpAny_mono (run_fnSD (E := WE W) (us := [.ref a, u]) (vs := [.ref a, x]) F (hr.mono hk) bd d (L2N.passAt tk σ) I (.cons rfl (.cons rx .nil)) q) (fun w s' hq => ?_) fun _ _ z => z
  obtain ⟨v', H1, I1, r1, b, rfl, q1⟩ := hq
  cases r1
  exact wpAny_truthy_bool ⟨.bl b, H1, I1, rfl, q1⟩
theorem w2_inO {d d' : D} (O : Opr G k C "__contains__" 2 S) (hk : k ≤ j) (i : FldD d' m C ns ds) (h : S [d', d] m (fun x m' => ∃ b, x = .bl b ∧ K (.bl b) m') fun x m' => E x r m') : W2 W E (oInO G j W) d d' r m K := fun s H Q a b e z ra rb g => by
  obtain ⟨p, dx, gs, rfl, hp, _⟩ := i.look e.mu rb
  refine ⟨p, C, dx, gs, k, S, rfl, hp, hk, O, spD_of rfl e z (fun d m' v H' s1 mu1 r1 q => ?_) (.cons rb (.cons ra .nil)) h fun _ _ q => q⟩
  obtain ⟨b, rfl, q⟩ := q
  cases r1
  exact ⟨b, rfl, g _ m' _ H' s1 mu1 (.bl b) q⟩
end
end DL
namespace DL
open PySem PySem.Spec L2
open PyProof.Rows hiding St
/-! ==, by an own __eq__ (both of the class) -/
section
variable {X : Cx} {W : WX} {E : ET} {r : Rho} {m : Mu} {K : KT} {G : Gx} {j k : Nat} {C : Addr} {ns ns' : List Str} {ds ds' : List D} {S : SpecD} {d d' : D}
structure OprEq (G : Gx) (k : Nat) (C : Addr) (S : SpecD) : Prop where
  o : Opr G k C "__eq__" 2 S
  nf : PySem.W.notFirst G.K C (.ref C) = true
def oEqO (G : Gx) (j : Nat) (W : WX) : O2 := fun x y σ H Q => ∃ (a b C dx dy : Addr) (fs gs : List (Str × V)) (k : Nat) (S : SpecD), x = .ref a ∧ y = .ref b ∧ H a = some (.ins C dx fs) ∧ H b = some (.ins C dy gs) ∧ k ≤ j ∧ OprEq G k C S ∧ spD 2 S [x, y] H Q (WE W σ)
theorem os_eqO (hr : Room j X.A) (tk : L2N.Takes X W) : OpS X (compareOp .Eq) (oEqO (Gx.of X) j W) := by
  intro pins s σ H x y u v Q I rx ry h
  obtain ⟨a, b, C, dx, dy, fs, gs, k, S, rfl, rfl, ha, hb, hk, O, q⟩ := h
  obtain rfl : u = Value.ref a := rx
  obtain rfl : v = Value.ref b := ry
  obtain ⟨f, ⟨⟨fd, ps, ds, F, bd, d⟩, cs⟩, h1, h2⟩ := O.o.ex
  obtain ⟨od, J⟩ := inst_of I ha
  obtain ⟨od', J'⟩ := inst_of I hb
  obtain ⟨m, fr⟩ := I.fr
  show wpAny (model X.prog X.w) X.A (richCompare .Eq (.ref a) (.ref b)) (EP X pins σ Q) X.xe s
  refine PySem.W.cmp_K (Nat.lt_of_succ_lt (hu_of hr)) fr I.ok.mod.kin J J'.type O.nf h1 h2 ?_
  exact wpAny_mono (run_fnSD (E := WE W) (us := [.ref a, .ref b]) (vs := [.ref a, .ref b]) F (hr.mono hk) bd d (L2N.passAt tk σ) I (.cons rfl (.cons rfl .nil)) q) (fun r s' hq => back_of hq) fun _ _ z => z
theorem w2_eqO (O : OprEq G k C S) (hk : k ≤ j) (i : FldD d m C ns ds) (i' : FldD d' m C ns' ds') (h : S [d, d'] m K fun x m' => E x r m') : W2 W E (oEqO G j W) d d' r m K := fun s H Q a b e z ra rb g => by
  obtain ⟨p, dx, gs, rfl, hp, _⟩ := i.look e.mu ra
  obtain ⟨p', dx', gs', rfl, hp', _⟩ := i'.look e.mu rb
  exact ⟨p, p', C, dx, dx', gs, gs', k, S, rfl, rfl, hp, hp', hk, O, spD_of rfl e z g (.cons ra (.cons rb .nil)) h fun _ _ q => q⟩
end
end DL
namespace DL
open PySem PySem.Spec L2
open PyProof.Rows hiding St
theorem pe_fldK {X : Cx} {KK : PySem.W.Frag} {e : Expr} {ta : TE} {f : Str} {pos : Pos} (hk : X.K = KK) (he : PE X e ta) (hb : attributeBase e f X.env (eval e X.env) = eval e X.env) : PE X (.Attribute e f pos) (tFld KK ta f) := by
  subst hk
  exact pe_fld he hb
section
variable {X : Cx} {W : WX} {mt : Str} {j : Nat} {e o : Expr} {es : List Expr} {t : TA} {to : TE} {pos apos : Pos}
theorem pe_mthG {pl : Sem Bool} (G : Gx) (hG : Gx.of X = G) (hr : Room j X.A) (tk : L2N.Takes X W) (he : PE X o to) (ha : PA X (e :: es) t)
    (hst : starEach (e :: es) X.env = (false, eval e X.env) :: starEach es X.env := by rfl) (hpl : (backTo pos (starEach es X.env)).any (·.1) = false := by rfl)
    (ht : eval (.Call (.Attribute o mt apos) (e :: es) [] pos) X.env = (do
      let ov ← eval o X.env
      standAt apos.atName
      let (f, first) ← holding [ov] (getMethod ov mt pl)
      callWith pos f first (backTo pos (starEach (e :: es) X.env)) (backToKw pos (keywordEach [] X.env))) := by rfl) :
    PE X (.Call (.Attribute o mt apos) (e :: es) [] pos) (tMt G j W mt to t) := by
  subst hG
  exact pe_mth hr tk he ha hst hpl ht
theorem pe_mth0G {pl : Sem Bool} (G : Gx) (hG : Gx.of X = G) (hr : Room j X.A) (tk : L2N.Takes X W) (he : PE X o to)
    (ht : eval (.Call (.Attribute o mt apos) [] [] pos) X.env = (do
      let ov ← eval o X.env
      standAt apos.atName
      let (f, first) ← holding [ov] (getMethod ov mt pl)
      callWith pos f first (backTo pos (starEach [] X.env)) (backToKw pos (keywordEach [] X.env))) := by rfl) :
    PE X (.Call (.Attribute o mt apos) [] [] pos) (tMt G j W mt to tNil) := by
  subst hG
  exact pe_mth0 hr tk he ht
end
end DL
set_option Elab.async false
set_option linter.all false
set_option maxRecDepth 100000
/-! DL13: == and != of all kinds: plain data, an own __eq__ on either side. -/
namespace PySem.SeqAt
open AutoSeq1 (wpAny_loadPart')
open MeetsSeq PySem.W
section
variable {prog : Program} {w : World} {A : Around} {E : Value → Shared → Prop} {s : Shared} {K : Frag} {x C : Addr} {ox : Obj} {od : Option Obj}
theorem isInst_own {M : Model} {T : String} {Q : Bool → Shared → Prop} (X : K.In s.heap) (I : PySem.W.InstAt s.heap x ox C od) (h : subIn K (.ref C) (.type T) = some false) (q : Q false s) : wpAny M A (isInstance (.ref x) (.type T)) Q E s := by
  unfold isInstance
  exact wpAny_bind (I.type.here ((looks_subIn X h).here q))
theorem list_eq_own (l : Addr) (items : Array Value) (n : Nat) (dd : Option Addr) (sl : Array (Option Value)) (hs : subIn K (.ref C) (.type "list") = some false) :
    Meets (Builtin.«list.__eq__» ⟨[.ref l, .ref x], []⟩) (fun _ R s => s.heap.get? l = some { cls := .type "list", dict := dd, data := .seq items n, slots := sl } ∧ K.In s.heap ∧ PySem.W.InstAt s.heap x ox C od ∧ R (.ok (.ret .notImplemented)) s) :=
  .of_wp fun prog w A R s h => by
    obtain ⟨hl, X, I, h⟩ := h
    have f1 : ∀ {M : Model} {A : Around} {E : Value → Shared → Prop} {Q : Bool → Shared → Prop}, Q false s → wpAny M A (isInstance (.ref x) (.type "list")) Q E s := fun q => isInst_own X I hs q
    obtain ⟨hp, g, d, tk, os⟩ := s
    wp_walk using wpAny_loadPart' hl, f1
    exact ⟨_, rfl, h⟩
theorem tuple_eq_own (l : Addr) (items : Array Value) (n : Nat) (dd : Option Addr) (sl : Array (Option Value)) (hs : subIn K (.ref C) (.type "tuple") = some false) :
    Meets (Builtin.«tuple.__eq__» ⟨[.ref l, .ref x], []⟩) (fun _ R s => s.heap.get? l = some { cls := .type "tuple", dict := dd, data := .seq items n, slots := sl } ∧ K.In s.heap ∧ PySem.W.InstAt s.heap x ox C od ∧ R (.ok (.ret .notImplemented)) s) :=
  .of_wp fun prog w A R s h => by
    obtain ⟨hl, X, I, h⟩ := h
    have f1 : ∀ {M : Model} {A : Around} {E : Value → Shared → Prop} {Q : Bool → Shared → Prop}, Q false s → wpAny M A (isInstance (.ref x) (.type "tuple")) Q E s := fun q => isInst_own X I hs q
    obtain ⟨hp, g, d, tk, os⟩ := s
    wp_walk using wpAny_loadPart' hl, f1
    exact ⟨_, rfl, h⟩
theorem int_eq_own (b : Int) (u : Tok) (dx : Addr) :
    Meets (Builtin.«int.__eq__» ⟨[.int b u, .ref x], []⟩) (fun _ R s => s.heap.get? x = some (instObj C dx) ∧ R (.ok (.ret .notImplemented)) s) :=
  .of_wp fun prog w A R s h => by
    obtain ⟨hp, g, d, tk, os⟩ := s
    obtain ⟨hl, h⟩ := h
    wp_walk using wpAny_loadPart' hl, wpAny_load hl
    exact ⟨_, rfl, h⟩
theorem str_eq_own (b : Str) (u : Tok) (dx : Addr) :
    Meets (Builtin.«str.__eq__» ⟨[.str b u, .ref x], []⟩) (fun _ R s => s.heap.get? x = some (instObj C dx) ∧ R (.ok (.ret .notImplemented)) s) :=
  .of_wp fun prog w A R s h => by
    obtain ⟨hp, g, d, tk, os⟩ := s
    obtain ⟨hl, h⟩ := h
    wp_walk using wpAny_loadPart' hl, wpAny_load hl
    exact ⟨_, rfl, h⟩
end
end PySem.SeqAt
namespace PySem.W
open PySem.SeqAt MeetsSeq
section
variable {prog : Program} {w : World} {A : Around} {E : Value → Shared → Prop} {s : Shared} {K : Frag} {x C f : Addr} {ox : Obj} {od : Option Obj} {a : Value} {T id : String}
/-- a builtin's value == an own instance: the value's own == declines, the instance's is asked -/
theorem cmp_refl {Q : Value → Shared → Prop} (hu : A.units < cLine) (X : K.In s.heap) (I : InstAt s.heap x ox C od) (ha : s.TypeIs a T) (hsub : subIn K (.ref C) (.type T) = some false)
    (h1 : Slot T (cmpInfo .Eq).2.1 id) (hc : ∀ Q' : Value → Shared → Prop, Q' .notImplemented s → wpAny (model prog w) A (call (.builtin id) [a, .ref x]) Q' E s)
    (hs : findIn K (.ref C) "__eq__" = some (some (.ref f))) (hf : isFn K (.ref f) = true)
    (h : wpAny (model prog w) A (call (.ref f) [.ref x, a]) (CmpBack Q) E s) : wpAny (model prog w) A (richCompare .Eq a (.ref x)) Q E s := by
  have one : wpAny (model prog w) A (tryCompare (.ref x) "__eq__" a) (fun r s' => ∃ v, r = some v ∧ Q v s') E s := by
    unfold tryCompare
    refine wpAny_bind (ifBound_K X I hs hf (wpAny_mono h (fun v s' hv => ?_) fun _ _ e => e))
    cases v <;> first | exact hv.elim | exact wpAny_pure ⟨_, rfl, hv⟩
  rcases hi : cmpInfo CmpOp.Eq with ⟨sym, ff, r⟩
  rw [hi] at h1
  have er : r = "__eq__" := by
    have : (cmpInfo CmpOp.Eq).2.2 = "__eq__" := rfl
    rw [hi] at this
    exact this
  subst er
  simp only [richCompare, hi, ha.oneThing_none]
  refine wpAny_holding ?_
  refine wpAny_bind (wpAny_cRoomFor hu ?_)
  refine wpAny_bind (wpAny_typeOf ha (wpAny_bind (I.type.here ?_)))
  have ne : (Value.type T != Value.ref C) = true := rfl
  simp only [ne, if_true]
  refine wpAny_bind ((looks_subIn X hsub).here ?_)
  simp only [Bool.false_eq_true, if_false, Bool.not_false, if_true]
  refine wpAny_bind (m := tryCompare a _ _) (wpAny_tryCompare_declines ha h1 (hc _ ⟨rfl, ?_⟩))
  refine wpAny_bind (m := tryCompare (.ref x) _ a) (wpAny_mono one (fun r s' z => ?_) fun _ _ e => e)
  obtain ⟨v, rfl, hq⟩ := z
  exact wpAny_pure hq
end
end PySem.W
namespace DL
open PySem PySem.Spec L2
open PyProof.Rows hiding St
/-! ### == and !=: all kinds -/
mutual
/-- a plain datum -/
inductive PD : D → PyData → Prop
  | non : PD .non .none
  | bl (b : Bool) : PD (.bl b) (.bool b)
  | int (i : Int) : PD (.int i) (.int i)
  | str (x : Str) : PD (.str x) (.str x)
  | tup {xs : List D} {ps : List PyData} (h : PDs xs ps) : PD (.tup xs) (.tuple ps)
  | lst {xs : List D} {ps : List PyData} (h : PDs xs ps) : PD (.lst xs) (.list ps)
inductive PDs : List D → List PyData → Prop
  | nil : PDs [] []
  | cons {x : D} {p : PyData} {xs : List D} {ps : List PyData} (h : PD x p) (t : PDs xs ps) : PDs (x :: xs) (p :: ps)
end
mutual
theorem PD.dp {K : PySem.W.Frag} {M : Addr → Prop} {H : Hp} : ∀ {d : D} {p : PyData} {v : V}, PD d p → Rep M H d v → Dp K H v p
  | _, _, _, .non, .non => .non
  | _, _, _, .bl b, .bl _ => .bl b
  | _, _, _, .int i, .int _ => .int i
  | _, _, _, .str x, .str _ => .str x
  | _, _, _, .tup h, .tup m hh r => .tup (rd_t hh) (PDs.dp h r)
  | _, _, _, .lst h, .lst m hh r => .lst (rd_l hh) (PDs.dp h r)
theorem PDs.dp {K : PySem.W.Frag} {M : Addr → Prop} {H : Hp} : ∀ {d : List D} {p : List PyData} {v : List V}, PDs d p → Reps M H d v → DpAll K H v p
  | _, _, _, .nil, .nil => .nil
  | _, _, _, .cons h t, .cons r q => .cons (PD.dp h r) (PDs.dp t q)
end
section
variable {X : Cx} {W : WX} {j : Nat}
/-- an own instance with an own __eq__ on the left -/
def oOwnL (G : Gx) (j : Nat) (W : WX) : O2 := fun x y σ H Q => ∃ (a C dx : Addr) (fs : List (Str × V)) (k : Nat) (S : SpecD) (t : Value), x = .ref a ∧ H a = some (.ins C dx fs) ∧ TyX G.K H y t ∧ PySem.W.notFirst G.K C t = true ∧ k ≤ j ∧ Opr G k C "__eq__" 2 S ∧ spD 2 S [x, y] H Q (WE W σ)
theorem os_ownL (hr : Room j X.A) (tk : L2N.Takes X W) : OpS X (compareOp .Eq) (oOwnL (Gx.of X) j W) := by
  intro pins s σ H x y u v Q I rx ry h
  obtain ⟨a, C, dx, fs, k, S, t, rfl, ha, ty, nf, hk, O, q⟩ := h
  obtain rfl : u = Value.ref a := rx
  obtain ⟨f, ⟨⟨fd, ps, ds, F, bd, d⟩, cs⟩, h1, h2⟩ := O.ex
  obtain ⟨od, J⟩ := inst_of I ha
  obtain ⟨P, Z, hp, _⟩ := kit_of I ry ty
  obtain ⟨m, fr⟩ := I.fr
  show wpAny (model X.prog X.w) X.A (richCompare .Eq (.ref a) v) (EP X pins σ Q) X.xe s
  refine PySem.W.cmp_K (Nat.lt_of_succ_lt (hu_of hr)) fr I.ok.mod.kin J (Z.ty _ _ I.kIn hp) nf h1 h2 ?_
  exact wpAny_mono (run_fnSD (E := WE W) (us := [.ref a, v]) (vs := [.ref a, y]) F (hr.mono hk) bd d (L2N.passAt tk σ) I (.cons rfl (.cons ry .nil)) q) (fun r s' hq => back_of hq) fun _ _ z => z
/-- a builtin's value, by its type -/
inductive BkV (K : PySem.W.Frag) (H : Hp) : V → String → Prop
  | non : BkV K H .non "NoneType"
  | int (i : Int) : BkV K H (.int i) "int"
  | str (x : Str) : BkV K H (.str x) "str"
  | lst {a : Addr} {xs : List V} (h : SqL K H a xs) : BkV K H (.ref a) "list"
  | tup {a : Addr} {xs : List V} (h : SqT K H a xs) : BkV K H (.ref a) "tuple"
/-- .. on the right -/
def oOwnR (G : Gx) (j : Nat) (W : WX) : O2 := fun x y σ H Q => ∃ (a C dx : Addr) (fs : List (Str × V)) (k : Nat) (S : SpecD) (T : String), y = .ref a ∧ H a = some (.ins C dx fs) ∧ BkV G.K H x T ∧ PySem.W.subIn G.K (.ref C) (.type T) = some false ∧ k ≤ j ∧ Opr G k C "__eq__" 2 S ∧ spD 2 S [y, x] H Q (WE W σ)
theorem os_ownR (hr : Room j X.A) (tk : L2N.Takes X W) : OpS X (compareOp .Eq) (oOwnR (Gx.of X) j W) := by
  intro pins s σ H x y u v Q I rx ry h
  obtain ⟨a, C, dx, fs, k, S, T, rfl, ha, bk, sb, hk, O, q⟩ := h
  obtain rfl : v = Value.ref a := ry
  obtain ⟨f, ⟨⟨fd, ps, ds, F, bd, d⟩, cs⟩, h1, h2⟩ := O.ex
  obtain ⟨od, J⟩ := inst_of I ha
  have hu := Nat.lt_of_succ_lt (hu_of hr)
  have run : wpAny (model X.prog X.w) X.A (call (.ref f) [.ref a, u]) (PySem.W.CmpBack (EP X pins σ Q)) X.xe s :=
    wpAny_mono (run_fnSD (E := WE W) (us := [.ref a, u]) (vs := [.ref a, x]) F (hr.mono hk) bd d (L2N.passAt tk σ) I (.cons rfl (.cons rx .nil)) q) (fun r s' hq => back_of hq) fun _ _ z => z
  show wpAny (model X.prog X.w) X.A (richCompare .Eq u (.ref a)) (EP X pins σ Q) X.xe s
  cases bk with
  | non =>
    cases (show u = Value.none from rx)
    exact PySem.W.cmp_refl hu I.kIn J rfl sb PySem.F.slot_NoneType_eq (fun _ hq => call_gives PySem.F.slot_NoneType_eq rfl PySem.F.entry_NoneType_eq (PySem.F.args_NoneType_eq_2 _ _) (PySem.SeqAt.NoneType___eq___none_ref_0 a) hq) h1 h2 run
  | int i =>
    obtain ⟨t, e⟩ := (show ∃ t, u = Value.int i t from rx)
    cases e
    exact PySem.W.cmp_refl hu I.kIn J (typeIs_int s i t) sb PySem.F.slot_int_eq (fun _ hq => call_meets PySem.F.slot_int_eq (typeIs_int s i t) PySem.F.entry_int_eq (PySem.F.args_int_eq_2 _ _) (PySem.SeqAt.int_eq_own i t dx) ⟨J.at_, hq⟩) h1 h2 run
  | str i =>
    obtain ⟨t, e⟩ := (show ∃ t, u = Value.str i t from rx)
    cases e
    exact PySem.W.cmp_refl hu I.kIn J (typeIs_str s i t) sb PySem.F.slot_str_eq (fun _ hq => call_meets PySem.F.slot_str_eq (typeIs_str s i t) PySem.F.entry_str_eq (PySem.F.args_str_eq_2 _ _) (PySem.SeqAt.str_eq_own i t dx) ⟨J.at_, hq⟩) h1 h2 run
  | @lst l xs hh =>
    cases (show u = Value.ref l from rx)
    obtain ⟨its, rv, p, hz⟩ := I.list hh
    obtain ⟨⟨cls, dd, data, sl⟩, ho, hc, n, hd⟩ := id p.isList
    simp only at hc hd
    subst hc hd
    exact PySem.W.cmp_refl hu I.kIn J ⟨_, ho, rfl⟩ sb PySem.F.slot_list_eq (fun _ hq => call_meets PySem.F.slot_list_eq ⟨_, ho, rfl⟩ PySem.F.entry_list_eq (PySem.F.args_list_eq_2 _ _) (PySem.SeqAt.list_eq_own l _ n dd sl sb) ⟨ho, I.kIn, J, hq⟩) h1 h2 run
  | @tup l xs hh =>
    cases (show u = Value.ref l from rx)
    obtain ⟨its, rv, p, hz⟩ := I.tuple hh
    obtain ⟨⟨cls, dd, data, sl⟩, ho, hc, n, hd⟩ := id (show s.heap.IsTuple l its.toArray from p)
    simp only at hc hd
    subst hc hd
    exact PySem.W.cmp_refl hu I.kIn J ⟨_, ho, rfl⟩ sb PySem.F.slot_tuple_eq (fun _ hq => call_meets PySem.F.slot_tuple_eq ⟨_, ho, rfl⟩ PySem.F.entry_tuple_eq (PySem.F.args_tuple_eq_2 _ _) (PySem.SeqAt.tuple_eq_own l _ n dd sl sb) ⟨ho, I.kIn, J, hq⟩) h1 h2 run
def oEqF (G : Gx) (j : Nat) (W : WX) : O2 := fun x y s H Q => rEq x y H Q ∨ (rEqD G.K x y H Q ∨ (oOwnL G j W x y s H Q ∨ oOwnR G j W x y s H Q))
def oNeF (G : Gx) (j : Nat) (W : WX) : O2 := fun x y s H Q => rNe x y H Q ∨ rNeD G.K x y H Q
theorem os_eqF (hr : Room j X.A) (tk : L2N.Takes X W) : OpS X (compareOp .Eq) (oEqF (Gx.of X) j W) := (OpS.of op_eq).or ((OpS.of (op_eqD hr.units)).or ((os_ownL hr tk).or (os_ownR hr tk)))
theorem os_neF (hr : Room j X.A) (tk : L2N.Takes X W) : OpS X (compareOp .NotEq) (oNeF (Gx.of X) j W) := (OpS.of op_ne).or (OpS.of (op_neD hr.units))
end
/-! ### what they do to trees -/
section
variable {W : WX} {E : ET} {r : Rho} {m : Mu} {K : KT} {G : Gx} {j k : Nat} {C : Addr} {ns : List Str} {ds : List D} {S : SpecD} {d d' : D}
theorem w2_eqFI {i k : Int} (h : K (.bl (decide (i = k))) m) : W2 W E (oEqF G j W) (.int i) (.int k) r m K := w2_val (fun _ _ _ => rint) (fun _ _ _ => rint) (fun _ _ => .bl _) (fun _ _ _ q => .inl ⟨rfl, by rw [dec_int, ← Bool.beq_eq_decide_eq] at *; exact q⟩) h
theorem w2_neFI {i k : Int} (h : K (.bl (!decide (i = k))) m) : W2 W E (oNeF G j W) (.int i) (.int k) r m K := w2_val (fun _ _ _ => rint) (fun _ _ _ => rint) (fun _ _ => .bl _) (fun _ _ _ q => .inl ⟨rfl, by rw [dec_int, ← Bool.beq_eq_decide_eq] at *; exact q⟩) h
theorem w2_eqFD {p q : PyData} (h1 : PD d p) (h2 : PD d' q) (s1 : SeqAt.shaped p = true) (s2 : SeqAt.shaped q = true) (h : K (.bl (PyData.eqv p q)) m) : W2 W E (oEqF G j W) d d' r m K := fun s H Q a b e z ra rb g =>
  .inr (.inl ⟨p, q, h1.dp ra, h2.dp rb, s1, s2, g _ m _ H (Stp.refl _ _) e.mu (.bl _) h⟩)
theorem w2_neFD {p q : PyData} (h1 : PD d p) (h2 : PD d' q) (s1 : SeqAt.shaped p = true) (s2 : SeqAt.shaped q = true) (h : K (.bl (!PyData.eqv p q)) m) : W2 W E (oNeF G j W) d d' r m K := fun s H Q a b e z ra rb g =>
  .inr ⟨p, q, h1.dp ra, h2.dp rb, s1, s2, g _ m _ H (Stp.refl _ _) e.mu (.bl _) h⟩
theorem w2_eqFs {p : PyData} (h1 : PD d p) (s1 : SeqAt.shaped p = true) (h : K (.bl true) m) : W2 W E (oEqF G j W) d d r m K := w2_eqFD h1 h1 s1 s1 (by rw [PySem.SeqAt.eqv_refl p (SeqAt.canLay_of_shaped s1)]; exact h)
theorem w2_neFs {p : PyData} (h1 : PD d p) (s1 : SeqAt.shaped p = true) (h : K (.bl false) m) : W2 W E (oNeF G j W) d d r m K := w2_neFD h1 h1 s1 s1 (by rw [PySem.SeqAt.eqv_refl p (SeqAt.canLay_of_shaped s1)]; exact h)
/-- the instance on the left -/
theorem w2_eqFL {t : Value} (O : Opr G k C "__eq__" 2 S) (hk : k ≤ j) (i : FldD d m C ns ds) (ty : TyD G d' m t) (nf : PySem.W.notFirst G.K C t = true) (h : S [d, d'] m K fun x m' => E x r m') : W2 W E (oEqF G j W) d d' r m K := fun s H Q a b e z ra rb g => by
  obtain ⟨p, dx, gs, rfl, hp, _⟩ := i.look e.mu ra
  exact .inr (.inr (.inl ⟨p, C, dx, gs, k, S, t, rfl, hp, ty.ok rb, nf, hk, O, spD_of rfl e z g (.cons ra (.cons rb .nil)) h fun _ _ q => q⟩))
inductive BkD : D → String → Prop
  | non : BkD .non "NoneType"
  | int (i : Int) : BkD (.int i) "int"
  | str (x : Str) : BkD (.str x) "str"
  | lst (xs : List D) : BkD (.lst xs) "list"
  | tup (xs : List D) : BkD (.tup xs) "tuple"
theorem BkD.ok {KF : PySem.W.Frag} {M : Addr → Prop} {H : Hp} {T : String} {v : V} (b : BkD d T) (rp : Rep M H d v) : BkV KF H v T := by
  cases b with
  | non => cases rp; exact .non
  | int i => cases rp; exact .int i
  | str i => cases rp; exact .str i
  | lst xs =>
    cases rp with
    | lst mm hh rs => exact .lst (rd_l hh)
  | tup xs =>
    cases rp with
    | tup mm hh rs => exact .tup (rd_t hh)
/-- .. on the right of a builtin's value -/
theorem w2_eqFR {T : String} (O : Opr G k C "__eq__" 2 S) (hk : k ≤ j) (i : FldD d' m C ns ds) (b : BkD d T) (sb : PySem.W.subIn G.K (.ref C) (.type T) = some false) (h : S [d', d] m K fun x m' => E x r m') : W2 W E (oEqF G j W) d d' r m K := fun s H Q a b' e z ra rb g => by
  obtain ⟨p, dx, gs, rfl, hp, _⟩ := i.look e.mu rb
  exact .inr (.inr (.inr ⟨p, C, dx, gs, k, S, T, rfl, hp, b.ok ra, sb, hk, O, spD_of rfl e z g (.cons rb (.cons ra .nil)) h fun _ _ q => q⟩))
end
/-! ### all of a list of bools; str of a number -/
section
variable {X : Cx} {W : WX} {E : ET} {r : Rho} {m : Mu} {K : KT} {G : Gx}
def cAll (G : Gx) : OC := fun xs _ H Q => rAll G.K xs H Q
theorem cs_all (hc : X.calm = true) : CallS X (.builtin "all") (cAll (Gx.of X)) := CallS.of (cr_all hc)
def cAny (G : Gx) : OC := fun xs _ H Q => rAny G.K xs H Q
theorem cs_any (hc : X.calm = true) : CallS X (.builtin "any") (cAny (Gx.of X)) := CallS.of (cr_any hc)
theorem rep_bls {M : Addr → Prop} {H : Hp} : ∀ {bs : List Bool} {vs : List V}, Reps M H (bs.map D.bl) vs → vs = bs.map V.bl
  | [], _, .nil => rfl
  | b :: bs, _, .cons (.bl _) t => by rw [rep_bls t]; rfl
theorem wc_all {ds : List D} {bs : List Bool} (e : ds = bs.map D.bl) (h : K (.bl (bs.all id)) m) : Wc W E (cAll G) [.lst ds] r m K := fun s H Q vs e0 z rs g => by
  subst e
  cases rs with
  | cons a tt =>
    cases tt
    cases a with
    | @lst a _ vs mm hh rr =>
      have e1 := rep_bls rr
      subst e1
      exact ⟨a, bs, rfl, rd_l hh, g _ m _ H (Stp.refl _ _) e0.mu (.bl _) h⟩
theorem wc_any {ds : List D} {bs : List Bool} (e : ds = bs.map D.bl) (h : K (.bl (bs.any id)) m) : Wc W E (cAny G) [.lst ds] r m K := fun s H Q vs e0 z rs g => by
  subst e
  cases rs with
  | cons a tt =>
    cases tt
    cases a with
    | @lst a _ vs mm hh rr =>
      have e1 := rep_bls rr
      subst e1
      exact ⟨a, bs, rfl, rd_l hh, g _ m _ H (Stp.refl _ _) e0.mu (.bl _) h⟩
def cStrI : OC := fun xs _ H Q => ∃ i, xs = [.int i] ∧ i.natAbs.log2 < 1920 ∧ Q (.str (toString i)) H
theorem cs_strI : CallS X (.type "str") cStrI := CallS.of call_str_int
theorem wc_strI {i : Int} (hb : i.natAbs.log2 < 1920) (h : K (.str (toString i)) m) : Wc W E cStrI [.int i] r m K := fun s H Q vs e z rs g => by
  cases rs with
  | cons a tt =>
    cases tt
    cases a
    exact ⟨i, rfl, hb, g _ m _ H (Stp.refl _ _) e.mu (.str _) h⟩
end
/-! ### an own == against the builtin kinds -/
def kinds5 : List String := ["NoneType", "int", "str", "list", "tuple"]
structure KindsC (G : Gx) (C : Addr) : Prop where
  kt : ∀ T ∈ kinds5, PySem.W.kitOne G.K (.type T) (.ref C) = some false
  sb : ∀ T ∈ kinds5, PySem.W.subIn G.K (.ref C) (.type T) = some false
  nf : ∀ T ∈ kinds5, PySem.W.notFirst G.K C (.type T) = true
theorem BkD.ty {G : Gx} {m : Mu} {d : D} {T : String} (b : BkD d T) : TyD G d m (.type T) := by
  cases b <;> constructor
theorem BkD.mem {d : D} {T : String} (b : BkD d T) : T ∈ kinds5 := by
  cases b <;> simp [kinds5]
theorem nf_self {K : PySem.W.Frag} {C : Addr} : PySem.W.notFirst K C (.ref C) = true := by simp [PySem.W.notFirst]
theorem kit_noT {K : PySem.W.Frag} {O : Addr} {T : String} (h2 : PySem.W.isClsIn K O = true) (h3 : PySem.W.typeIn K (.ref O) = some (.type "type")) (h4 : PySem.W.subIn K (.type T) (.ref O) = some false) : PySem.W.kitOne K (.type T) (.ref O) = some false := by
  have ne : ¬ ((Value.type T == Value.ref O) = true) := fun z => by simp at z
  have e2 : ((PySem.W.clsIn K O).isSome && PySem.W.typeIn K (.ref O) == some (.type "type")) = true := by
    have h2' : (PySem.W.clsIn K O).isSome = true := h2
    rw [h2', h3] <;> rfl
  unfold PySem.W.kitOne
  rw [if_neg ne]
  show (if ((PySem.W.clsIn K O).isSome && PySem.W.typeIn K (.ref O) == some (.type "type")) = true then PySem.W.subIn K (.type T) (.ref O) else none) = some false
  rw [if_pos e2]
  exact h4
theorem nf_of {K : PySem.W.Frag} {A B : Addr} (h : PySem.W.subIn K (.ref B) (.ref A) = some false) : PySem.W.notFirst K A (.ref B) = true := by simp [PySem.W.notFirst, h]
end DL
set_option Elab.async false
set_option linter.all false
set_option maxRecDepth 100000
/-! DL14: static methods, &, texts put together, == of plain data in except suites. -/
namespace DL
open PySem PySem.Spec L2
open PyProof.Rows hiding St
/-- a static method mt of the class at C -/
structure Sta (G : Gx) (k : Nat) (C : Addr) (mt : Str) (n : Nat) (S : SpecD) : Prop where
  ex : ∃ (f p : Addr) (rr : List Value), Fnx G k f n S [] ∧ ClX.CRead G.K C (.type "type") ∧ PySem.W.findCls G.K (.ref C) (.type "type") mt = some (.get (.builtin "staticmethod.__get__") (.ref p) .none (.ref C)) ∧ PySem.W.recIn G.K p "staticmethod" = some (.ref f :: rr) ∧ PySem.W.keepIn G.K (.ref f) = true
def tSt (C : Addr) (n : Nat) (S : SpecD) (W : WX) (to : TE) (t : TA) : TE := fun σ H Q => to σ H fun x H1 => x = .ref C ∧ t σ H1 fun vs H2 => spD n S vs H2 Q (WE W σ)
section
variable {X : Cx} {W : WX} {mt : Str} {k j n : Nat} {S : SpecD} {C : Addr} {e o : Expr} {es : List Expr} {t : TA} {to : TE} {pos apos : Pos}
theorem pe_sta {pl : Sem Bool} (c : Sta (Gx.of X) k C mt n S) (hr : Room j X.A) (hk : k ≤ j) (tk : L2N.Takes X W) (he : PE X o to) (ha : PA X (e :: es) t)
    (hst : starEach (e :: es) X.env = (false, eval e X.env) :: starEach es X.env := by rfl) (hpl : (backTo pos (starEach es X.env)).any (·.1) = false := by rfl)
    (ht : eval (.Call (.Attribute o mt apos) (e :: es) [] pos) X.env = (do
      let ov ← eval o X.env
      standAt apos.atName
      let (f, first) ← holding [ov] (getMethod ov mt pl)
      callWith pos f first (backTo pos (starEach (e :: es) X.env)) (backToKw pos (keywordEach [] X.env))) := by rfl) :
    PE X (.Call (.Attribute o mt apos) (e :: es) [] pos) (tSt C n S W to t) := by
  obtain ⟨f, p, rr, ⟨⟨fd, ps, ds, F, b, d⟩, cs⟩, rd, at_, rc, kp⟩ := c.ex
  have hds : ds = [] := by
    have := d.length
    simp only [List.map_nil, List.length_nil] at this
    exact List.length_eq_zero_iff.mp this.symm
  refine ⟨fun pins s σ H Q I h => ?_⟩
  refine PySem.W.methodCall_KW (pl := pl) (thn (he.run pins s σ H _ I h) fun u s1 ⟨x, H1, I1, rx, ex, q⟩ => ?_) ht
  subst ex
  obtain rfl : u = Value.ref C := rx
  refine PySem.W.method_cls I1.kIn rd.ga ?_
  refine PySem.W.cls_bind I1.kIn rd.rd at_ ?_
  refine wpAny_call (PySem.W.sm_get (s := { s1 with toks := s1.toks + 1 }) I1.kIn rc (PySem.W.handed_on rfl ?_))
  have I2 := I1.tok (s1.toks + 1)
  refine PySem.W.callWith_K (first := []) (h₀ := X.base) I.ok.mod.kin kp (thn (ha.run pos pins _ σ H1 _ I2 q) fun us s2 ⟨vs, H2, I3, rr, q2⟩ => ⟨I3.kIn, ?_⟩) hst hpl
  have z := run_fnSD (E := WE W) (us := us) (vs := vs) F (hr.mono hk) b d (L2N.passAt tk σ) I3 rr (by rw [List.map_nil, List.append_nil]; exact q2)
  exact z
end
section
variable {W : WX} {E : ET} {r : Rho} {m : Mu} {K : KT} {C : Addr} {n : Nat} {S : SpecD} {to : TE} {t : TA}
theorem we_sta (h : We W E to r m fun d m1 => d = .ref C ∧ Wa W E t r m1 fun ds m2 => ds.length = n ∧ S ds m2 K fun x m' => E x r m') : We W E (tSt C n S W to t) r m K := fun s H Q e z g =>
  h s H _ e z fun d m1 v H1 st mu rd ⟨ed, q⟩ => by
    subst ed
    cases rd
    refine ⟨rfl, ?_⟩
    refine q s H1 _ (e.step st mu) (z.step st) fun ds m2 vs H2 st2 mu2 rs q2 => ?_
    exact spD_of q2.1 ((e.step st mu).step st2 mu2) ((z.step st).step st2) ((g.step st).step st2) rs q2.2 fun _ _ q => q
end
/-! ### & -/
section
variable {X : Cx} {W : WX} {E : ET} {r : Rho} {m : Mu} {K : KT} {G : Gx} {j k : Nat} {C : Addr} {ns ns' : List Str} {ds ds' : List D} {S : SpecD} {d d' : D}
def oAnd (G : Gx) (j : Nat) (W : WX) : O2 := oOwn2 G j W "__and__"
theorem os_and (hr : Room j X.A) (tk : L2N.Takes X W) : OpS X (binaryOp .BitAnd) (oAnd (Gx.of X) j W) := os_own2 (op := .BitAnd) hr tk
theorem w2_andO (O : Opr G k C "__and__" 2 S) (hk : k ≤ j) (i : FldD d m C ns ds) (i' : FldD d' m C ns' ds') (h : S [d, d'] m K fun x m' => E x r m') : W2 W E (oAnd G j W) d d' r m K := w2_own O hk i i' h
/-! ### texts -/
theorem w2_addStr {a b : Str} (l : a.length + b.length ≤ sizeLine) (h : K (.str (a ++ b)) m) : W2 W E (oAdd G j W) (.str a) (.str b) r m K := w2_val (fun _ _ _ => rstr) (fun _ _ _ => rstr) (fun _ _ => .str _) (fun _ _ _ q => .inr (.inl ⟨a, b, rfl, rfl, l, q⟩)) h
theorem w2_neSame {a : Str} (h : K (.bl false) m) : W2 W E (oNeF G j W) (.str a) (.str a) r m K := w2_val (fun _ _ _ => rstr) (fun _ _ _ => rstr) (fun _ _ => .bl _) (fun _ _ _ q => .inl ⟨rfl, by rw [decide_eq_true (rfl : V.str a = V.str a)]; exact q⟩) h
theorem w2_eqSame {a : Str} (h : K (.bl true) m) : W2 W E (oEqF G j W) (.str a) (.str a) r m K := w2_val (fun _ _ _ => rstr) (fun _ _ _ => rstr) (fun _ _ => .bl _) (fun _ _ _ q => .inl ⟨rfl, by rw [decide_eq_true (rfl : V.str a = V.str a)]; exact q⟩) h
end
theorem int_len {i : Int} {k : Nat} (hk : 0 < k) (h : i.natAbs.log2 < k) : (Str.ofString (toString i)).length ≤ k + 1 := by
  rw [PySem.ofString_length]
  exact int_text_length_le hk h
/-! ### == of plain data in an except suite -/
section
variable {X : Cx} {W : WX} {E : ET} {r : Rho} {m : Mu} {K : KT} {G : Gx} {j k : Nat} {d d' : D}
def oEqHF (G : Gx) : O2 := fun x y _ H Q => rEq x y H Q ∨ rEqD G.K x y H Q
def oNeHF (G : Gx) : O2 := fun x y _ H Q => rNe x y H Q ∨ rNeD G.K x y H Q
theorem roomH64 {A : Around} (hr : L2H.RoomH j A) : A.units + 64 < cLine := by have := hr.un; omega
theorem os_eqHF (hr : L2H.RoomH j X.A) : OpS X (compareOp .Eq) (oEqHF (Gx.of X)) := (OpS.of op_eq).or (OpS.of (op_eqD (roomH64 hr)))
theorem os_neHF (hr : L2H.RoomH j X.A) : OpS X (compareOp .NotEq) (oNeHF (Gx.of X)) := (OpS.of op_ne).or (OpS.of (op_neD (roomH64 hr)))
theorem w2_eqHFI {i k : Int} (h : K (.bl (decide (i = k))) m) : W2 W E (oEqHF G) (.int i) (.int k) r m K := w2_val (fun _ _ _ => rint) (fun _ _ _ => rint) (fun _ _ => .bl _) (fun _ _ _ q => .inl ⟨rfl, by rw [dec_int, ← Bool.beq_eq_decide_eq] at *; exact q⟩) h
theorem w2_neHFI {i k : Int} (h : K (.bl (!decide (i = k))) m) : W2 W E (oNeHF G) (.int i) (.int k) r m K := w2_val (fun _ _ _ => rint) (fun _ _ _ => rint) (fun _ _ => .bl _) (fun _ _ _ q => .inl ⟨rfl, by rw [dec_int, ← Bool.beq_eq_decide_eq] at *; exact q⟩) h
theorem w2_eqHFs {p : PyData} (h1 : PD d p) (s1 : SeqAt.shaped p = true) (h : K (.bl true) m) : W2 W E (oEqHF G) d d r m K := fun s H Q a b e z ra rb g =>
  .inr ⟨p, p, h1.dp ra, h1.dp rb, s1, s1, g _ m _ H (Stp.refl _ _) e.mu (.bl _) (by rw [PySem.SeqAt.eqv_refl p (SeqAt.canLay_of_shaped s1)]; exact h)⟩
end
/-! ### a stronger promise gives a weaker one -/
theorem Fnx.imp {G : Gx} {k n : Nat} {f : Addr} {S S' : SpecD} {dd : List D} (F : Fnx G k f n S dd) (h : ∀ ds m K E, S' ds m K E → S ds m K E) : Fnx G k f n S' dd := by
  obtain ⟨⟨fd, ps, ds, F, b, d⟩, cs⟩ := F
  exact ⟨⟨fd, ps, ds, F.imp fun vs H Q E ⟨ds, m, K, E', a, b, c, q, d, e⟩ => ⟨ds, m, K, E', a, b, c, h _ _ _ _ q, d, e⟩, b, d⟩, cs⟩
theorem Mak.imp {G : Gx} {k n : Nat} {x : Str} {C : Addr} {S S' : SpecD} {dd : List D} (M : Mak G k x C n S dd) (h : ∀ ds m K E, S' ds m K E → S ds m K E) : Mak G k x C n S' dd :=
  ⟨let ⟨f, F, M⟩ := M.ex; ⟨f, F.imp h, M⟩, M.mgC⟩
end DL
set_option Elab.async false
set_option linter.all false
set_option maxRecDepth 100000
/-! DL15: an own instance ** a number. -/
namespace DL
open PySem PySem.Spec L2
open PyProof.Rows hiding St
structure PowC (K : PySem.W.Frag) (C : Addr) : Prop where
  rp : PySem.W.findIn K (.ref C) (dunderR "pow") = some none
  sb : PySem.W.subIn K (.type "int") (.ref C) = some false
section
variable {X : Cx} {W : WX} {j : Nat}
def oOwnI (G : Gx) (j : Nat) (W : WX) : O2 := fun x y σ H Q => ∃ (a C dx : Addr) (fs : List (Str × V)) (k : Nat) (S : SpecD) (i : Int), x = .ref a ∧ H a = some (.ins C dx fs) ∧ y = .int i ∧ PowC G.K C ∧ k ≤ j ∧ Opr G k C "__pow__" 2 S ∧ spD 2 S [x, y] H Q (WE W σ)
theorem os_ownI (hr : Room j X.A) (tk : L2N.Takes X W) : OpS X (binaryOp .Pow) (oOwnI (Gx.of X) j W) := by
  intro pins s σ H x y u v Q I rx ry h
  obtain ⟨a, C, dx, fs, k, S, i, rfl, ha, rfl, pc, hk, O, q⟩ := h
  obtain rfl : u = Value.ref a := rx
  obtain ⟨t, e⟩ := (show ∃ t, v = Value.int i t from ry)
  subst e
  obtain ⟨f, ⟨⟨fd, ps, ds, F, bd, d⟩, cs⟩, h1, h2⟩ := O.ex
  obtain ⟨od, J⟩ := inst_of I ha
  obtain ⟨m, fr⟩ := I.fr
  refine PySem.W.ksp_binT (T := "int") (op := .Pow) (rc := none) fr I.ok.mod.kin J rfl O.sf h1 h2 pc.rp (.inl rfl) rfl rfl pc.sb ?_
  exact wpAny_mono (run_fnSD (E := WE W) (us := [.ref a, .int i t]) (vs := [.ref a, .int i]) F (hr.mono hk) bd d (L2N.passAt tk σ) I (.cons rfl (.cons ry .nil)) q) (fun r s' hq => back_of hq) fun _ _ z => z
def oPowF (G : Gx) (j : Nat) (W : WX) : O2 := fun x y s H Q => rI CPow (fun i j => .int (i ^ j.toNat)) x y H Q ∨ oOwnI G j W x y s H Q
theorem os_powF (hr : Room j X.A) (tk : L2N.Takes X W) : OpS X (binaryOp .Pow) (oPowF (Gx.of X) j W) := (OpS.of op_pow).or (os_ownI hr tk)
end
section
variable {W : WX} {E : ET} {r : Rho} {m : Mu} {K : KT} {G : Gx} {j k : Nat} {C : Addr} {ns : List Str} {ds : List D} {S : SpecD} {d : D}
theorem w2_powF {i k : Int} (h : CPow i k ∧ K (.int (i ^ k.toNat)) m) : W2 W E (oPowF G j W) (.int i) (.int k) r m K := w2_val (fun _ _ _ => rint) (fun _ _ _ => rint) (fun _ _ => .int _) (fun _ _ _ q => .inl ⟨i, k, rfl, rfl, h.1, q⟩) h.2
theorem w2_powO {i : Int} (O : Opr G k C "__pow__" 2 S) (hk : k ≤ j) (fi : FldD d m C ns ds) (pc : PowC G.K C) (h : S [d, .int i] m K fun x m' => E x r m') : W2 W E (oPowF G j W) d (.int i) r m K := fun s H Q a b e z ra rb g => by
  obtain ⟨p, dx, gs, rfl, hp, _⟩ := fi.look e.mu ra
  cases rb
  exact .inr ⟨p, C, dx, gs, k, S, i, rfl, hp, rfl, pc, hk, O, spD_of rfl e z g (.cons ra (.cons (.int i) .nil)) h fun _ _ q => q⟩
end
end DL
set_option Elab.async false
set_option linter.all false
set_option maxRecDepth 100000
/-! DL16: a field written anew; a list that is not written any more. -/
namespace DL
open PySem PySem.Spec L2
open PyProof.Rows hiding St
def setF (f : Str) : List Str → List D → D → List D
  | n :: ns, d :: ds, x => if f = n then x :: ds else d :: setF f ns ds x
  | _, ds, _ => ds
theorem RepF.put {M : Addr → Prop} {H : Hp} {f : Str} {x : D} {y : V} (q : Rep M H x y) : ∀ {n : List Str} {d : List D} {v : List (Str × V)}, RepF M H n d v → n.contains f = true → RepF M H n (setF f n d x) (putF f y v)
  | _, _, _, .nil, h => by cases h
  | n :: ns, d :: ds, (_, v) :: vs, .cons r t, h => by
    unfold setF
    by_cases e : f = n
    · subst e
      rw [if_pos rfl]
      have e0 : putF f y ((f, v) :: vs) = (f, y) :: vs := by
        show (if f = f then (f, y) :: vs else (f, v) :: putF f y vs) = _
        rw [if_pos rfl]
      rw [e0]
      exact .cons q t
    · rw [if_neg e]
      have e0 : putF f y ((n, v) :: vs) = (n, v) :: putF f y vs := by
        show (if n = f then (n, y) :: vs else (n, v) :: putF f y vs) = _
        rw [if_neg (Ne.symm e)]
      rw [e0]
      have h' : ns.contains f = true := by
        rw [List.contains_cons] at h
        have : (f == n) = false := by simpa using e
        rw [this, Bool.false_or] at h
        exact h
      exact .cons r (RepF.put q t h')
section
variable {W : WX} {E : ET} {r : Rho} {m : Mu} {K : KT} {P : DEnds} {G : Gx} {te to : TE} {t : TS}
theorem ws_fldS {f : Str} (h : We W E te r m fun d m1 => We W E to r m1 fun o m2 => ∃ p C ns ds m3, o = .ref p ∧ At m2 p (.ins C ns ds) ∧ Cls G.K C ∧ NoAttr G.K C f ∧ ns.contains f = true ∧ Nat.ble ns.length 900 = true ∧ Put m2 p (.ins C ns (setF f ns ds d)) m3 ∧ P.nx r m3) : Ws W E (sFld G.K to te f) r m P := fun s H De e z g =>
  h s H _ e z fun d m1 v H1 s1 mu1 r1 q1 => q1 s H1 _ (e.step s1 mu1) (z.step s1) fun o m2 vo H2 s2 mu2 r2 q2 => by
    obtain ⟨p, C, ns, ds, m3, rfl, ha, hc, hn, hf, hl, hp, k⟩ := q2
    cases r2
    have q := ha.rep mu2
    cases q with
    | ins hh rf =>
      have st : ∀ o, Stp (dom m2) H2 (dom m3) (upd H2 p o) := fun o => hp.stp
      refine ⟨p, C, _, _, rfl, hh, hc, hn, by rw [rf.lens]; have := Nat.le_of_ble_eq_true hl; omega, ?_⟩
      exact g.nx r m3 s _ ((s1.trans s2).trans (st _)) (((e.step s1 mu1).step s2 mu2).step (st _) (hp.mut mu2 (.ins upd_same ((RepF.put (r1.mono s2) rf hf).mono (st _))))) k
theorem set_same {α : Type} : ∀ {l : List α} {i : Nat} {a : α}, l[i]? = some a → l.set i a = l
  | [], _, _, h => by simp at h
  | x :: l, 0, a, h => by
    simp at h
    subst h
    rfl
  | x :: l, i + 1, a, h => by
    have h' : l[i]? = some a := by simpa using h
    rw [List.set_cons_succ, set_same h']
/-- a list that is not written any more -/
theorem Ws.freeze {i : Nat} {p : Addr} {xs : List D} (hr : r[i]? = some (some (.ref p))) (h : Ws W E t (r.set i (some (.lst xs))) m P) : Ws W E t r ((p, .lst xs) :: m) P := fun s H De e z g => by
  have mu := e.mu
  have ls : Stp (dom ((p, MO.lst xs) :: m)) H (dom m) H := Stp.less fun a z => dom_cons.mpr (.inr z)
  have nd := mu.notin
  have at1 := (At.head (m := m) (p := p) (o := .lst xs)).rep mu
  cases at1 with
  | lst hh rf =>
    have e2 : EnvR (r.set i (some (.lst xs))) m s H := by
      have e1 := e.env.mono ls
      obtain ⟨y, hy, ry⟩ := e1.get hr
      cases ry
      have q := e1.set (.some (.lst nd (.inl hh) (rf.mono ls))) i
      rw [set_same hy] at q
      exact ⟨q, mu.drop⟩
    exact h s H De e2 (z.step ls) ⟨fun r' m' s' H' a b k => g.nx r' m' s' H' (ls.trans a) b k, fun d m' v H' a b c k => g.rt d m' v H' (ls.trans a) b c k, fun r' m' s' H' a b k => g.bk r' m' s' H' (ls.trans a) b k, fun r' m' s' H' a b k => g.ct r' m' s' H' (ls.trans a) b k⟩
end
end DL
set_option Elab.async false
set_option linter.all false
set_option maxRecDepth 100000
/-! DL17: how often a bool stands in a list; bit_length. -/
namespace DL
open PySem PySem.Spec L2
open PyProof.Rows hiding St
section
variable {X : Cx}
def eqb (k : Bool) : Value → Bool
  | .bool b => b == k
  | _ => false
theorem eqb_count (k : Bool) : ∀ bs : List Bool, (bs.map Value.bool).countP (eqb k) = bs.count k
  | [] => rfl
  | b :: bs => by
    rw [List.map_cons, List.countP_cons, eqb_count k bs, List.count_cons]
    rfl
def rCntB (K : PySem.W.Frag) : V → List V → Hp → VK → Prop := fun x xs H Q => ∃ (p : Addr) (bs : List Bool) (k : Bool), x = .ref p ∧ xs = [.bl k] ∧ SqL K H p (bs.map V.bl) ∧ Q (.int (bs.count k : Nat)) H
theorem mt_bcount : MtR X "list.count" (rCntB X.K) := by
  intro pins s σ H x xs v us Q I rx rxs h
  obtain ⟨p, bs, k, rfl, rfl, hs, q⟩ := h
  cases rx
  obtain ⟨u, rfl, ru⟩ := rxs.one
  cases ru
  obtain ⟨its, rv, ⟨⟨cls, dd, data, sl⟩, n, ho, hc, hdn, hd⟩, hlen⟩ := I.list hs
  simp only at hc hd
  subst hc hd
  have hb := rv.bls
  subst hb
  refine call_meets PySem.F.slot_list_count ⟨_, ho, rfl⟩ PySem.F.entry_list_count (PySem.F.args_list_count_2 _ _)
    (SeqAt.list_countAt p (bs.map Value.bool).toArray n dd sl (.bool k) (eqb k)) ⟨ho, fun y hy => ?_, ?_⟩
  · have hy' : y ∈ bs.map Value.bool := by simpa using hy
    obtain ⟨b, _, rfl⟩ := List.mem_map.mp hy'
    exact SeqAt.EqAt.bool_bool b k
  have ec : (bs.map Value.bool).toArray.toList.countP (eqb k) = bs.count k := eqb_count k bs
  refine ⟨.int (bs.count k : Nat), H, I.tok _, ⟨s.toks, ?_⟩, q⟩
  show Value.int (((bs.map Value.bool).toArray.toList.countP (eqb k) : Nat) : Int) s.toks = Value.int ((bs.count k : Nat) : Int) s.toks
  rw [ec]
end
section
variable {W : WX} {E : ET} {r : Rho} {m : Mu} {K : KT} {to : TE}
theorem we_bits (h : We W E to r m fun d m1 => ∃ i, d = .int i ∧ K (.int (Builtin.Int.intBits i : Nat)) m1) : We W E (tBits to) r m K := fun s H Q e z g =>
  h s H _ e z fun d m1 v H1 s1 mu1 r1 ⟨i, ed, k⟩ => by
    subst ed
    cases r1
    exact ⟨i, rfl, g _ m1 _ H1 s1 mu1 (.int _) k⟩
end
end DL
set_option Elab.async false
set_option linter.all false
/-! MQ: a Ratio by its number (Lean's own Rat). -/
namespace DL
open PySem PySem.Spec L2
abbrev dv (t b : Int) : Rat := Rat.divInt t b
/-- a Ratio, by its number -/
abbrev rq (C : Addr) (x : Rat) : D := rat C x.num (x.den : Int)
structure Qb (n : Nat) (x : Rat) : Prop where
  t : Bd n x.num
  b : Bd n (x.den : Int)
theorem Qb.mono {a b : Nat} {x : Rat} (h : Qb a x) (l : a ≤ b) : Qb b x := ⟨h.1.mono l, h.2.mono l⟩
theorem den_pos (x : Rat) : 0 < (x.den : Int) := by have := x.den_nz; omega
theorem den_ne (x : Rat) : (x.den : Int) ≠ 0 := by have := x.den_nz; omega
theorem rT_dv {t b : Int} (h : b ≠ 0) : rT t b = (dv t b).num ∧ rB t b = ((dv t b).den : Int) := by
  obtain ⟨g, hg, e1, e2, hp⟩ := rat_eqs (t := t) h
  have e3 : dv t b = Rat.divInt (rT t b) (rB t b) := by
    have := Rat.divInt_mul_left (n := rT t b) (d := rB t b) hg
    rw [← e1, ← e2] at this
    exact this
  have hB : ((rB t b).toNat : Int) = rB t b := by omega
  have e4 : Rat.divInt (rT t b) (rB t b) = (⟨rT t b, (rB t b).toNat, by omega, by
      have := rat_gcd (t := t) h
      have e : (rB t b).natAbs = (rB t b).toNat := by omega
      rw [e] at this
      exact this⟩ : Rat) := by
    rw [Rat.mk_eq_divInt, hB]
  rw [e3, e4]
  exact ⟨rfl, hB.symm⟩
theorem rq_of {C : Addr} {t b : Int} (h : b ≠ 0) : rat C (rT t b) (rB t b) = rq C (dv t b) := by
  rw [(rT_dv h).1, (rT_dv h).2]
theorem qb_of {n : Nat} {t b : Int} (h : b ≠ 0) (ht : Bd n t) (hb : Bd n b) : Qb n (dv t b) := by
  have q1 := rat_bd h ht
  have q2 := rat_bdB (t := t) h hb
  rw [(rT_dv h).1] at q1
  rw [(rT_dv h).2] at q2
  exact ⟨q1, q2⟩
theorem dv_self (x : Rat) : dv x.num x.den = x := Rat.num_divInt_den x
theorem dv_pair {t b : Int} (h : 0 < b) : (dv t b).num * b = t * ((dv t b).den : Int) := by
  obtain ⟨g, hg, e1, e2, hp⟩ := rat_eqs (t := t) (b := b) (by omega)
  have r := rT_dv (t := t) (b := b) (by omega)
  rw [← r.1, ← r.2]
  generalize rT t b = P at *
  generalize rB t b = Q at *
  subst e1 e2
  ac_rfl
theorem dv_eq {a b c d : Int} (hb : b ≠ 0) (hd : d ≠ 0) : dv a b = dv c d ↔ a * d = c * b := Rat.divInt_eq_divInt_iff hb hd
theorem add_dv {a b c d : Int} (hb : b ≠ 0) (hd : d ≠ 0) : dv a b + dv c d = dv (a * d + c * b) (b * d) := Rat.divInt_add_divInt _ _ hb hd
theorem sub_dv {a b c d : Int} (hb : b ≠ 0) (hd : d ≠ 0) : dv a b - dv c d = dv (a * d - c * b) (b * d) := Rat.divInt_sub_divInt _ _ hb hd
theorem mul_dv {a b c d : Int} : dv a b * dv c d = dv (a * c) (b * d) := Rat.divInt_mul_divInt _ _
theorem neg_dv {a b : Int} : -dv a b = dv (-a) b := Rat.neg_divInt _ _
theorem dv_scale {a b k : Int} (hk : k ≠ 0) : dv (a * k) (b * k) = dv a b := Rat.divInt_mul_right hk
theorem inv_dv {a b : Int} : (dv a b)⁻¹ = dv b a := by
  by_cases hb : b = 0
  · subst hb
    rw [show dv a 0 = 0 from Rat.divInt_zero a, show dv 0 a = 0 from Rat.zero_divInt a, Rat.inv_zero]
  by_cases ha : a = 0
  · subst ha
    rw [show dv b 0 = 0 from Rat.divInt_zero b, show dv 0 b = 0 from Rat.zero_divInt b, Rat.inv_zero]
  refine Rat.inv_eq_of_mul_eq_one ?_
  rw [mul_dv, Int.mul_comm a b]
  exact Rat.divInt_self' (Int.mul_ne_zero hb ha)
theorem lt_dv {a b c d : Int} (hb : 0 < b) (hd : 0 < d) : dv a b < dv c d ↔ a * d < c * b := by
  rw [Rat.lt_iff]
  have e1 := dv_pair (t := a) hb
  have e2 := dv_pair (t := c) hd
  have p1 := den_pos (dv a b)
  have p2 := den_pos (dv c d)
  generalize (dv a b).num = A at *
  generalize ((dv a b).den : Int) = B at *
  generalize (dv c d).num = C at *
  generalize ((dv c d).den : Int) = D at *
  have k : 0 < b * d := Int.mul_pos hb hd
  have k2 : 0 < B * D := Int.mul_pos p1 p2
  have x1 : A * D * (b * d) = (a * d) * (B * D) := by
    calc A * D * (b * d) = (A * b) * (D * d) := by ac_rfl
      _ = _ := by rw [e1]; ac_rfl
  have x2 : C * B * (b * d) = (c * b) * (B * D) := by
    calc C * B * (b * d) = (C * d) * (B * b) := by ac_rfl
      _ = _ := by rw [e2]; ac_rfl
  constructor
  · intro h
    have := Int.mul_lt_mul_of_pos_right h k
    rw [x1, x2] at this
    exact Int.lt_of_mul_lt_mul_right this (Int.le_of_lt k2)
  · intro h
    have := Int.mul_lt_mul_of_pos_right h k2
    rw [← x1, ← x2] at this
    exact Int.lt_of_mul_lt_mul_right this (Int.le_of_lt k)
theorem le_dv {a b c d : Int} (hb : 0 < b) (hd : 0 < d) : dv a b ≤ dv c d ↔ a * d ≤ c * b := by
  rw [← Rat.not_lt, lt_dv hd hb]
  omega
theorem lt_q {x y : Rat} : x.num * y.den < y.num * x.den ↔ x < y := (Rat.lt_iff x y).symm
theorem num_neg_iff {x : Rat} : x.num < 0 ↔ x < 0 := by
  rw [← lt_q (x := x) (y := 0)]
  show _ ↔ x.num * ((1 : Nat) : Int) < 0 * x.den
  omega
theorem num_pos_iff {x : Rat} : 0 < x.num ↔ 0 < x := by
  rw [← lt_q (x := 0) (y := x)]
  show _ ↔ 0 * (x.den : Int) < x.num * ((1 : Nat) : Int)
  omega
theorem dv_pos {t b : Int} (hb : 0 < b) : 0 < dv t b ↔ 0 < t := by
  have := lt_dv (a := 0) (b := 1) (c := t) (d := b) (by decide) hb
  rw [show dv 0 1 = 0 from rfl] at this
  rw [this]; omega
theorem dv_neg {t b : Int} (hb : 0 < b) : dv t b < 0 ↔ t < 0 := by
  have := lt_dv (a := t) (b := b) (c := 0) (d := 1) hb (by decide)
  rw [show dv 0 1 = 0 from rfl] at this
  rw [this]; omega
theorem dv_nonneg {t b : Int} (hb : 0 < b) : 0 ≤ dv t b ↔ 0 ≤ t := by
  rw [← Rat.not_lt, dv_neg hb]; omega
theorem dv_nonpos {t b : Int} (hb : 0 < b) : dv t b ≤ 0 ↔ t ≤ 0 := by
  rw [← Rat.not_lt, dv_pos hb]; omega
theorem dv_zero {t b : Int} (hb : b ≠ 0) : dv t b = 0 ↔ t = 0 := by
  have := dv_eq (a := t) (b := b) (c := 0) (d := 1) hb (by decide)
  rw [show dv 0 1 = 0 from rfl] at this
  rw [this]; omega
/-! ### the program's own formulas -/
theorem q_add {x y : Rat} : dv (x.num * y.den + y.num * x.den) (x.den * y.den) = x + y := by
  have := add_dv (a := x.num) (c := y.num) (den_ne x) (den_ne y)
  rw [dv_self, dv_self] at this
  exact this.symm
theorem q_sub {x y : Rat} : dv (x.num * y.den - y.num * x.den) (x.den * y.den) = x - y := by
  have := sub_dv (a := x.num) (c := y.num) (den_ne x) (den_ne y)
  rw [dv_self, dv_self] at this
  exact this.symm
theorem q_mul {x y : Rat} : dv (x.num * y.num) (x.den * y.den) = x * y := by
  have := mul_dv (a := x.num) (b := x.den) (c := y.num) (d := y.den)
  rw [dv_self, dv_self] at this
  exact this.symm
theorem q_neg {x : Rat} : dv (-x.num) x.den = -x := by
  have := neg_dv (a := x.num) (b := x.den)
  rw [dv_self] at this
  exact this.symm
theorem q_div {x y : Rat} : dv (x.num * y.den) (x.den * y.num) = x / y := by
  have := mul_dv (a := x.num) (b := x.den) (c := y.den) (d := y.num)
  rw [← inv_dv (a := y.num), dv_self, dv_self] at this
  exact this.symm
theorem num_ne {x : Rat} (h : x ≠ 0) : x.num ≠ 0 := fun z => h (Rat.num_eq_zero.mp z)
theorem qb_add {a b : Nat} {x y : Rat} (h : Qb a x) (k : Qb b y) : Qb (a + b + 1) (x + y) := by
  rw [← q_add]
  exact qb_of (Int.mul_ne_zero (den_ne x) (den_ne y)) (((h.1.mul k.2)).add ((k.1.mul h.2).mono (Nat.le_of_eq (Nat.add_comm _ _)))) ((h.2.mul k.2).mono (by omega))
theorem qb_sub {a b : Nat} {x y : Rat} (h : Qb a x) (k : Qb b y) : Qb (a + b + 1) (x - y) := by
  rw [← q_sub]
  exact qb_of (Int.mul_ne_zero (den_ne x) (den_ne y)) (((h.1.mul k.2)).sub ((k.1.mul h.2).mono (Nat.le_of_eq (Nat.add_comm _ _)))) ((h.2.mul k.2).mono (by omega))
theorem qb_mul {a b : Nat} {x y : Rat} (h : Qb a x) (k : Qb b y) : Qb (a + b) (x * y) := by
  rw [← q_mul]
  exact qb_of (Int.mul_ne_zero (den_ne x) (den_ne y)) (h.1.mul k.1) (h.2.mul k.2)
theorem qb_div {a b : Nat} {x y : Rat} (h : Qb a x) (k : Qb b y) (n : y ≠ 0) : Qb (a + b) (x / y) := by
  rw [← q_div]
  exact qb_of (Int.mul_ne_zero (den_ne x) (num_ne n)) (h.1.mul k.2) (h.2.mul k.1)
theorem q_inv {x : Rat} : 1 / x = dv x.den x.num := by
  have := inv_dv (a := x.num) (b := x.den)
  rw [dv_self] at this
  rw [← this, Rat.div_def, Rat.one_mul]
theorem qb_inv {a : Nat} {x : Rat} (h : Qb a x) (n : x ≠ 0) : Qb a (1 / x) := by
  rw [q_inv]
  exact qb_of (num_ne n) h.2 h.1
theorem qb_neg {a : Nat} {x : Rat} (h : Qb a x) : Qb a (-x) := by
  rw [← q_neg]
  exact qb_of (den_ne x) h.1.neg h.2
theorem qb_one {n : Nat} : Qb (n + 1) 1 := by
  have : Bd (n + 1) 1 := (bd_lit (n := 1) (by decide)).mono (by omega)
  exact ⟨this, this⟩
/-! ### compare, least, greatest -/
def cq (x y : Rat) : Int := if x < y then -1 else if y < x then 1 else 0
def qmin (x y : Rat) : Rat := if y < x then y else x
def qmax (x y : Rat) : Rat := if x < y then y else x
theorem cq_pos {x y : Rat} : 0 < cq x y ↔ y < x := by
  unfold cq
  split
  · constructor <;> intro h
    · omega
    · exact absurd (Rat.le_of_lt h) (Rat.not_le.mpr ‹_›)
  · split
    · simp_all
    · simp_all
theorem cq_neg {x y : Rat} : cq x y < 0 ↔ x < y := by
  unfold cq
  split
  · simp_all
  · split
    · simp_all
    · simp_all
theorem cq_le {x y : Rat} : cq x y ≤ 0 ↔ x ≤ y := by
  rw [← Int.not_lt, cq_pos, Rat.not_lt]
theorem cq_ge {x y : Rat} : 0 ≤ cq x y ↔ y ≤ x := by
  rw [← Int.not_lt, cq_neg, Rat.not_lt]
theorem qmin_qb {a : Nat} {x y : Rat} (h : Qb a x) (k : Qb a y) : Qb a (qmin x y) := by
  unfold qmin
  split <;> assumption
theorem qmax_qb {a : Nat} {x y : Rat} (h : Qb a x) (k : Qb a y) : Qb a (qmax x y) := by
  unfold qmax
  split <;> assumption
end DL
set_option Elab.async false
set_option linter.all false
set_option maxRecDepth 100000
/-! DQ: Ratio and Span by numbers: what their methods promise. -/
namespace DL
open PySem PySem.Spec L2
open PyProof.Rows hiding St
/-! ### Ratio -/
def S_init (C : Addr) : SpecD := fun ds m K _ => ∃ x m0 t b, ds = [.ref x, .int t, .int b] ∧ m = (x, .ins C [] []) :: m0 ∧ b ≠ 0 ∧ Bd 8000 b ∧ K .non ((x, .ins C ["top", "bottom"] [.int (rT t b), .int (rB t b)]) :: m0)
structure RatQ (b : Int) (K : Prop) : Prop where
  nz : b ≠ 0
  bd : Bd 8000 b
  k : K
section
variable {W : WX} {E : ET} {ta : TA} {r : Rho} {m : Mu} {K : KT} {C S : Addr}
theorem we_ratQ (h : Wa W E ta r m fun ds m1 => ∃ p q, ds = [.int p, .int q] ∧ RatQ q (K (rq C (dv p q)) m1)) : We W E (tMk C 3 (S_init C) [] W ta) r m K :=
  we_mk0 (h.imp fun ds m1 ⟨p, q, e, h0, hb, k⟩ => by
    subst e
    exact ⟨rfl, fun x _ => ⟨x, m1, p, q, rfl, rfl, h0, hb, _, _, rfl, rfl, by rw [(rT_dv h0).1, (rT_dv h0).2]; exact k⟩⟩)
theorem we_ratQ1 (h : Wa W E ta r m fun ds m1 => ∃ p, ds = [.int p] ∧ K (rq C (p : Rat)) m1) : We W E (tMk C 3 (S_init C) [.int 1] W ta) r m K :=
  we_mk1 rfl (h.imp fun ds m1 ⟨p, e, k⟩ => by
    subst e
    have e1 : rT p 1 = p := (rat_low (by decide) (Nat.gcd_one_right _)).1
    have e2 : rB p 1 = 1 := (rat_low (t := p) (by decide) (Nat.gcd_one_right _)).2
    exact ⟨rfl, fun x _ => ⟨x, m1, p, 1, rfl, rfl, by decide, bd_lit (by decide), _, _, rfl, rfl, by rw [e1, e2]; exact k⟩⟩)
def S_q2 (C : Addr) (f : Rat → Rat → Rat) : SpecD := fun ds m K _ => ∃ x y, ds = [rq C x, rq C y] ∧ Qb 3900 x ∧ Qb 3900 y ∧ K (rq C (f x y)) m
def S_qadd (C : Addr) : SpecD := S_q2 C (fun x y => x + y)
def S_qsub (C : Addr) : SpecD := S_q2 C (fun x y => x - y)
def S_qmul (C : Addr) : SpecD := S_q2 C (fun x y => x * y)
def S_qleast (C : Addr) : SpecD := S_q2 C qmin
def S_qgreat (C : Addr) : SpecD := S_q2 C qmax
def S_qdiv (C : Addr) : SpecD := fun ds m K _ => ∃ x y, ds = [rq C x, rq C y] ∧ Qb 3900 x ∧ Qb 3900 y ∧ y ≠ 0 ∧ K (rq C (x / y)) m
def S_qneg (C : Addr) : SpecD := fun ds m K _ => ∃ x, ds = [rq C x] ∧ Qb 3900 x ∧ K (rq C (-x)) m
def S_qcmp (C : Addr) : SpecD := fun ds m K _ => ∃ x y, ds = [rq C x, rq C y] ∧ Qb 3900 x ∧ Qb 3900 y ∧ K (.int (cq x y)) m
def S_qsign (C : Addr) : SpecD := fun ds m K _ => ∃ x, ds = [rq C x] ∧ K (.int (cq x 0)) m
variable {F : Ex → Mu → Prop} {x y x0 x1 y0 y1 : Rat}
theorem use_qadd (h : Qb 3900 x) (k : Qb 3900 y) (q : K (rq C (x + y)) m) : S_qadd C [rq C x, rq C y] m K F := ⟨x, y, rfl, h, k, q⟩
theorem use_qsub (h : Qb 3900 x) (k : Qb 3900 y) (q : K (rq C (x - y)) m) : S_qsub C [rq C x, rq C y] m K F := ⟨x, y, rfl, h, k, q⟩
theorem use_qmul (h : Qb 3900 x) (k : Qb 3900 y) (q : K (rq C (x * y)) m) : S_qmul C [rq C x, rq C y] m K F := ⟨x, y, rfl, h, k, q⟩
theorem use_qleast (h : Qb 3900 x) (k : Qb 3900 y) (q : K (rq C (qmin x y)) m) : S_qleast C [rq C x, rq C y] m K F := ⟨x, y, rfl, h, k, q⟩
theorem use_qgreat (h : Qb 3900 x) (k : Qb 3900 y) (q : K (rq C (qmax x y)) m) : S_qgreat C [rq C x, rq C y] m K F := ⟨x, y, rfl, h, k, q⟩
theorem use_qdiv (h : Qb 3900 x) (k : Qb 3900 y) (n : y ≠ 0) (q : K (rq C (x / y)) m) : S_qdiv C [rq C x, rq C y] m K F := ⟨x, y, rfl, h, k, n, q⟩
theorem use_qneg (h : Qb 3900 x) (q : K (rq C (-x)) m) : S_qneg C [rq C x] m K F := ⟨x, rfl, h, q⟩
theorem use_qcmp (h : Qb 3900 x) (k : Qb 3900 y) (q : K (.int (cq x y)) m) : S_qcmp C [rq C x, rq C y] m K F := ⟨x, y, rfl, h, k, q⟩
theorem use_qsign (q : K (.int (cq x 0)) m) : S_qsign C [rq C x] m K F := ⟨x, rfl, q⟩
/-! ### Span -/
abbrev spn (S C : Addr) (x y : Rat) : D := .ins S ["low", "high"] [rq C x, rq C y]
theorem fix_lo {a b : D} : fix "low" ["low", "high"] [a, b] = some a := by simp [fix]
theorem nhl : ¬ (("high" : Str) = "low") := by decide +kernel
theorem fix_hi {a b : D} : fix "high" ["low", "high"] [a, b] = some b := by simp [fix, nhl]
structure SpnC (K : PySem.W.Frag) (C : Addr) : Prop where
  ins : InsK K C
  al : NoAttr K C "low"
  ah : NoAttr K C "high"
section
variable {K : PySem.W.Frag} {KK : D → Prop} {C : Addr} {a b : D}
theorem fld_low (R : SpnC K C) (h : KK a) : ∃ C' ns ds x, D.ins C ["low", "high"] [a, b] = .ins C' ns ds ∧ Cls K C' ∧ NoAttr K C' "low" ∧ fix "low" ns ds = some x ∧ KK x := ⟨_, _, _, _, rfl, R.ins.cl, R.al, fix_lo, h⟩
theorem fld_high (R : SpnC K C) (h : KK b) : ∃ C' ns ds x, D.ins C ["low", "high"] [a, b] = .ins C' ns ds ∧ Cls K C' ∧ NoAttr K C' "high" ∧ fix "high" ns ds = some x ∧ KK x := ⟨_, _, _, _, rfl, R.ins.cl, R.ah, fix_hi, h⟩
variable {m0 : Mu} {x : Addr} {d e : D} {N : Mu → Prop}
theorem cont_lh : (["low"] : List Str).contains "high" = false := by decide +kernel
theorem setN_low (R : SpnC K C) (h : N ((x, .ins C ["low"] [d]) :: m0)) : ∃ p C' ns ds m3, D.ref x = .ref p ∧ At ((x, MO.ins C [] []) :: m0) p (.ins C' ns ds) ∧ Cls K C' ∧ NoAttr K C' "low" ∧ ns.contains "low" = false ∧ Nat.ble ns.length 900 = true ∧ Put ((x, MO.ins C [] []) :: m0) p (.ins C' (ns ++ [("low" : Str)]) (ds ++ [d])) m3 ∧ N m3 :=
  ⟨_, _, _, _, _, rfl, .head, R.ins.cl, R.al, rfl, rfl, .head, h⟩
theorem setN_high (R : SpnC K C) (h : N ((x, .ins C ["low", "high"] [d, e]) :: m0)) : ∃ p C' ns ds m3, D.ref x = .ref p ∧ At ((x, MO.ins C ["low"] [d]) :: m0) p (.ins C' ns ds) ∧ Cls K C' ∧ NoAttr K C' "high" ∧ ns.contains "high" = false ∧ Nat.ble ns.length 900 = true ∧ Put ((x, MO.ins C ["low"] [d]) :: m0) p (.ins C' (ns ++ [("high" : Str)]) (ds ++ [e])) m3 ∧ N m3 :=
  ⟨_, _, _, _, _, rfl, .head, R.ins.cl, R.ah, cont_lh, rfl, .head, h⟩
end
def S_sinit (S C : Addr) : SpecD := fun ds m K _ => ∃ x m0 a b, ds = [.ref x, rq C a, rq C b] ∧ m = (x, .ins S [] []) :: m0 ∧ a ≤ b ∧ Qb 3900 a ∧ Qb 3900 b ∧ K .non ((x, .ins S ["low", "high"] [rq C a, rq C b]) :: m0)
structure SpnA (x y : Rat) (K : Prop) : Prop where
  le : x ≤ y
  qx : Qb 3900 x
  qy : Qb 3900 y
  k : K
theorem we_spn (h : Wa W E ta r m fun ds m1 => ∃ x y, ds = [rq C x, rq C y] ∧ SpnA x y (K (spn S C x y) m1)) : We W E (tMk S 3 (S_sinit S C) [] W ta) r m K :=
  we_mk0 (h.imp fun ds m1 ⟨p, q, e, le, qx, qy, k⟩ => by
    subst e
    exact ⟨rfl, fun x _ => ⟨x, m1, p, q, rfl, rfl, le, qx, qy, _, _, rfl, rfl, k⟩⟩)
/-- two spans, of a size -/
structure Two (x0 x1 y0 y1 : Rat) : Prop where
  lx : x0 ≤ x1
  ly : y0 ≤ y1
  a0 : Qb 900 x0
  a1 : Qb 900 x1
  b0 : Qb 900 y0
  b1 : Qb 900 y1
abbrev F4 := Rat → Rat → Rat → Rat → Rat
def S_s2 (S C : Addr) (f g : F4) : SpecD := fun ds m K _ => ∃ x0 x1 y0 y1, ds = [spn S C x0 x1, spn S C y0 y1] ∧ Two x0 x1 y0 y1 ∧ K (spn S C (f x0 x1 y0 y1) (g x0 x1 y0 y1)) m
def q4min (a b c d : Rat) : Rat := qmin (qmin a b) (qmin c d)
def q4max (a b c d : Rat) : Rat := qmax (qmax a b) (qmax c d)
def addL : F4 := fun x0 _ y0 _ => x0 + y0
def addH : F4 := fun _ x1 _ y1 => x1 + y1
def subL : F4 := fun x0 _ _ y1 => x0 - y1
def subH : F4 := fun _ x1 y0 _ => x1 - y0
def mulL : F4 := fun x0 x1 y0 y1 => q4min (x0 * y0) (x0 * y1) (x1 * y0) (x1 * y1)
def mulH : F4 := fun x0 x1 y0 y1 => q4max (x0 * y0) (x0 * y1) (x1 * y0) (x1 * y1)
def leL : F4 := fun x0 _ y0 _ => qmin x0 y0
def leH : F4 := fun _ x1 _ y1 => qmin x1 y1
def grL : F4 := fun x0 _ y0 _ => qmax x0 y0
def grH : F4 := fun _ x1 _ y1 => qmax x1 y1
def divL : F4 := fun x0 x1 y0 y1 => mulL x0 x1 (1 / y1) (1 / y0)
def divH : F4 := fun x0 x1 y0 y1 => mulH x0 x1 (1 / y1) (1 / y0)
theorem use_s2 {f g : F4} (h : Two x0 x1 y0 y1) (k : K (spn S C (f x0 x1 y0 y1) (g x0 x1 y0 y1)) m) : S_s2 S C f g [spn S C x0 x1, spn S C y0 y1] m K F := ⟨_, _, _, _, rfl, h, k⟩
def S_sneg (S C : Addr) : SpecD := fun ds m K _ => ∃ x0 x1, ds = [spn S C x0 x1] ∧ x0 ≤ x1 ∧ Qb 900 x0 ∧ Qb 900 x1 ∧ K (spn S C (-x1) (-x0)) m
theorem use_sneg (h : x0 ≤ x1) (a : Qb 900 x0) (b : Qb 900 x1) (k : K (spn S C (-x1) (-x0)) m) : S_sneg S C [spn S C x0 x1] m K F := ⟨_, _, rfl, h, a, b, k⟩
def S_scont (S C : Addr) : SpecD := fun ds m K _ => ∃ x0 x1 x, ds = [spn S C x0 x1, rq C x] ∧ Qb 3900 x0 ∧ Qb 3900 x1 ∧ Qb 3900 x ∧ K (.bl (decide (x0 ≤ x ∧ x ≤ x1))) m
theorem use_scont (a : Qb 3900 x0) (b : Qb 3900 x1) (c : Qb 3900 x) (k : K (.bl (decide (x0 ≤ x ∧ x ≤ x1))) m) : S_scont S C [spn S C x0 x1, rq C x] m K F := ⟨_, _, _, rfl, a, b, c, k⟩
/-- the quotient, or ZeroBottom (class Z) -/
def S_sdiv (S C Z : Addr) : SpecD := fun ds m K E => ∃ x0 x1 y0 y1, ds = [spn S C x0 x1, spn S C y0 y1] ∧ Two x0 x1 y0 y1 ∧ ((y0 ≤ 0 ∧ 0 ≤ y1 ∧ E ⟨Z, [], []⟩ m) ∨ ((0 < y0 ∨ y1 < 0) ∧ K (spn S C (divL x0 x1 y0 y1) (divH x0 x1 y0 y1)) m))
theorem use_sdiv {Z : Addr} (h : Two x0 x1 y0 y1) (n : 0 < y0 ∨ y1 < 0) (k : K (spn S C (divL x0 x1 y0 y1) (divH x0 x1 y0 y1)) m) : S_sdiv S C Z [spn S C x0 x1, spn S C y0 y1] m K F := ⟨_, _, _, _, rfl, h, .inr ⟨n, k⟩⟩
/-! what is between -/
theorem q4_le {a b c d : Rat} : q4min a b c d ≤ q4max a b c d := by
  unfold q4min q4max qmin qmax
  grind
theorem q4min_qb {n : Nat} {a b c d : Rat} (ha : Qb n a) (hb : Qb n b) (hc : Qb n c) (hd : Qb n d) : Qb n (q4min a b c d) := qmin_qb (qmin_qb ha hb) (qmin_qb hc hd)
theorem q4max_qb {n : Nat} {a b c d : Rat} (ha : Qb n a) (hb : Qb n b) (hc : Qb n c) (hd : Qb n d) : Qb n (q4max a b c d) := qmax_qb (qmax_qb ha hb) (qmax_qb hc hd)
theorem qmin_le {a b c d : Rat} (h : a ≤ c) (k : b ≤ d) : qmin a b ≤ qmin c d := by
  unfold qmin
  grind
theorem qmax_le {a b c d : Rat} (h : a ≤ c) (k : b ≤ d) : qmax a b ≤ qmax c d := by
  unfold qmax
  grind
theorem inv_anti {a b : Rat} (h : a ≤ b) (n : 0 < a ∨ b < 0) : 1 / b ≤ 1 / a := by
  have na : a ≠ 0 := by grind
  have nb : b ≠ 0 := by grind
  have ea := Rat.div_mul_cancel (a := 1) na
  have eb := Rat.div_mul_cancel (a := 1) nb
  generalize 1 / a = u at *
  generalize 1 / b = v at *
  have e : (u - v) * (a * b) = b - a := by grind
  have p : 0 < a * b := by
    rcases n with n | n
    · exact Rat.mul_pos n (by grind)
    · have := Rat.mul_pos (a := -a) (b := -b) (by grind) (by grind)
      grind
  have q : 0 * (a * b) ≤ (u - v) * (a * b) := by rw [e]; grind
  have := Rat.le_of_mul_le_mul_right q p
  grind
end
end DL
set_option Elab.async false
set_option linter.all false
set_option maxRecDepth 100000
/-! DQ2: Ratio's own ==, rounding; pairs that stand for fractions. -/
namespace DL
open PySem PySem.Spec L2
open PyProof.Rows hiding St
section
variable {W : WX} {E : ET} {ta : TA} {r : Rho} {m : Mu} {K : KT} {C : Addr} {F : Ex → Mu → Prop} {x y : Rat} {G : Gx} {j k : Nat} {d' : D} {T : String}
/-- Ratio's own == -/
def S_qeq (G : Gx) (C : Addr) : SpecD := fun ds m K _ => ∃ x d', ds = [rq C x, d'] ∧ ((∃ y, d' = rq C y ∧ K (.bl (decide (x = y))) m) ∨ (∃ t, TyD G d' m t ∧ PySem.W.kitOne G.K t (.ref C) = some false ∧ K (.bl false) m))
theorem w2_qeq (O : Opr G k C "__eq__" 2 (S_qeq G C)) (hk : k ≤ j) (ic : InsK G.K C) (h : K (.bl (decide (x = y))) m) : W2 W E (oEqF G j W) (rq C x) (rq C y) r m K :=
  w2_eqFL O hk .fixed (.ins ic) nf_self ⟨x, rq C y, rfl, .inl ⟨y, rfl, h⟩⟩
theorem w2_qeqL (O : Opr G k C "__eq__" 2 (S_qeq G C)) (hk : k ≤ j) (Kc : KindsC G C) (b : BkD d' T) (h : K (.bl false) m) : W2 W E (oEqF G j W) (rq C x) d' r m K :=
  w2_eqFL O hk .fixed b.ty (Kc.nf T b.mem) ⟨x, d', rfl, .inr ⟨_, b.ty, Kc.kt T b.mem, h⟩⟩
theorem w2_qeqR (O : Opr G k C "__eq__" 2 (S_qeq G C)) (hk : k ≤ j) (Kc : KindsC G C) (b : BkD d' T) (h : K (.bl false) m) : W2 W E (oEqF G j W) d' (rq C x) r m K :=
  w2_eqFR O hk .fixed b (Kc.sb T b.mem) ⟨x, d', rfl, .inr ⟨_, b.ty, Kc.kt T b.mem, h⟩⟩
theorem q_eq : x = y ↔ x.num = y.num ∧ (x.den : Int) = y.den := by
  constructor
  · intro e
    subst e
    exact ⟨rfl, rfl⟩
  · intro h
    exact Rat.ext h.1 (Int.ofNat.inj h.2)
def S_qdown (C : Addr) : SpecD := fun ds m K _ => ∃ x, ds = [rq C x] ∧ Qb 3900 x ∧ K (.int (x.num / x.den)) m
def S_qup (C : Addr) : SpecD := fun ds m K _ => ∃ x, ds = [rq C x] ∧ Qb 3900 x ∧ K (.int (-(-x.num / x.den))) m
theorem use_qdown (h : Qb 3900 x) (q : K (.int (x.num / x.den)) m) : S_qdown C [rq C x] m K F := ⟨x, rfl, h, q⟩
theorem use_qup (h : Qb 3900 x) (q : K (.int (-(-x.num / x.den))) m) : S_qup C [rq C x] m K F := ⟨x, rfl, h, q⟩
end
/-- rounding, by any pair -/
theorem dv_floor {a b : Int} (hb : 0 < b) : (dv a b).num / ((dv a b).den : Int) = a / b := by
  obtain ⟨g, hg, e1, e2, hp⟩ := rat_eqs (t := a) (b := b) (by omega)
  have r := rT_dv (t := a) (b := b) (by omega)
  rw [← r.1, ← r.2]
  have gp : 0 < g := by
    refine Int.lt_of_not_ge fun z => ?_
    have : g * rB a b ≤ 0 := Int.mul_nonpos_of_nonpos_of_nonneg z (Int.le_of_lt hp)
    omega
  generalize rT a b = P at *
  generalize rB a b = Q at *
  subst e1 e2
  exact (Int.mul_ediv_mul_of_pos _ _ gp).symm
theorem dv_ceil {a b : Int} (hb : 0 < b) : -(-(dv a b).num / ((dv a b).den : Int)) = -(-a / b) := by
  have e := dv_floor (a := -a) hb
  rw [← neg_dv] at e
  rw [← e]
  rfl
theorem dv_int {a : Int} : dv a 1 = (a : Rat) := by
  rw [show dv a 1 = (a : Rat) / ((1 : Int) : Rat) from Rat.divInt_eq_div a 1]
  rw [Rat.div_def]
  have : (((1 : Int) : Rat))⁻¹ = 1 := Rat.inv_eq_of_mul_eq_one (by rw [Rat.mul_one]; rfl)
  rw [this, Rat.mul_one]
/-- a pair that stands for a fraction, of a size -/
structure Fr (n : Nat) (t b : Int) : Prop where
  pos : 0 < b
  bt : Bd n t
  bb : Bd n b
theorem Fr.mono {a b : Nat} {x y : Int} (h : Fr a x y) (l : a ≤ b) : Fr b x y := ⟨h.pos, h.bt.mono l, h.bb.mono l⟩
theorem Fr.plus {n k : Nat} {a b c d : Int} (h : Fr n a b) (q : Fr k c d) : Fr (n + k + 1) (a * d + c * b) (b * d) :=
  ⟨Int.mul_pos h.pos q.pos, (h.bt.mul q.bb).add ((q.bt.mul h.bb).mono (Nat.le_of_eq (Nat.add_comm _ _))), (h.bb.mul q.bb).mono (by omega)⟩
theorem Fr.minus {n k : Nat} {a b c d : Int} (h : Fr n a b) (q : Fr k c d) : Fr (n + k + 1) (a * d - c * b) (b * d) :=
  ⟨Int.mul_pos h.pos q.pos, (h.bt.mul q.bb).sub ((q.bt.mul h.bb).mono (Nat.le_of_eq (Nat.add_comm _ _))), (h.bb.mul q.bb).mono (by omega)⟩
theorem Fr.mul {n k : Nat} {a b c d : Int} (h : Fr n a b) (q : Fr k c d) : Fr (n + k) (a * c) (b * d) :=
  ⟨Int.mul_pos h.pos q.pos, h.bt.mul q.bt, h.bb.mul q.bb⟩
theorem bd_nat {n : Nat} {a : Int} (h : Bd n a) : Bd n (a.natAbs : Int) := by
  unfold Bd at *
  rwa [Int.natAbs_natCast]
theorem Fr.abs {n : Nat} {a b : Int} (h : Fr n a b) : Fr n (a.natAbs : Int) b := ⟨h.pos, bd_nat h.bt, h.bb⟩
theorem Fr.neg {n : Nat} {a b : Int} (h : Fr n a b) : Fr n (-a) b := ⟨h.pos, h.bt.neg, h.bb⟩
theorem Fr.qb {n : Nat} {a b : Int} (h : Fr n a b) : Qb n (dv a b) := qb_of (by have := h.pos; omega) h.bt h.bb
theorem fr_small {a b : Int} (h : a.natAbs ≤ 1000000000000) (k : 0 < b) (l : b ≤ 1000000000000) : Fr 40 a b := ⟨k, by unfold Bd; omega, by unfold Bd; omega⟩
theorem fr_one {n : Nat} {a : Int} (h : Bd n a) : Fr (n + 1) a 1 := ⟨by decide, h.mono (by omega), (bd_lit (n := 1) (by decide)).mono (by omega)⟩
theorem fr_zero : Fr 1 0 1 := ⟨by decide, bd_lit (by decide), bd_lit (by decide)⟩
theorem abs_nn {a b : Int} (h : 0 < b) : 0 ≤ dv (a.natAbs : Int) b := (dv_nonneg h).mpr (by omega)
theorem neg_np {a b : Int} (h : 0 < b) : dv (-(a.natAbs : Int)) b ≤ 0 := (dv_nonpos h).mpr (by omega)
theorem cq_dv {a b c d : Int} (hb : 0 < b) (hd : 0 < d) : cq (dv a b) (dv c d) = if a * d - c * b < 0 then -1 else if 0 < a * d - c * b then 1 else 0 := by
  unfold cq
  simp only [lt_dv hb hd, lt_dv hd hb]
  have e1 : a * d < c * b ↔ a * d - c * b < 0 := by omega
  have e2 : c * b < a * d ↔ 0 < a * d - c * b := by omega
  simp only [e1, e2]
theorem cq_self {x : Rat} : cq x x = 0 := by
  unfold cq
  grind
theorem cq_swap {x y : Rat} : cq y x = -cq x y := by
  unfold cq
  grind
theorem cq_zero {x y : Rat} : cq x y = 0 ↔ x = y := by
  unfold cq
  grind
theorem cq_num {x : Rat} : cq x 0 = cq x (dv 0 1) := rfl
end DL
set_option Elab.async false
set_option linter.all false
set_option maxRecDepth 100000
/-! DQ4: Ratio's powers; Bars. -/
namespace DL
open PySem PySem.Spec L2
open PyProof.Rows hiding St
section
variable {W : WX} {E : ET} {ta : TA} {r : Rho} {m : Mu} {K : KT} {C Z : Addr} {F : Ex → Mu → Prop} {x y : Rat} {G : Gx} {j k : Nat}
/-! ### powers -/
theorem dv_pow (a b : Int) : ∀ n : Nat, dv (a ^ n) (b ^ n) = (dv a b) ^ n
  | 0 => by
    rw [Int.pow_zero, Int.pow_zero, Rat.pow_zero]
    rfl
  | n + 1 => by
    rw [Rat.pow_succ, ← dv_pow a b n, mul_dv, Int.pow_succ, Int.pow_succ]
theorem pow_ne_zeroI {x : Int} (h : x ≠ 0) : ∀ n : Nat, x ^ n ≠ 0
  | 0 => by rw [Int.pow_zero]; decide
  | n + 1 => by rw [Int.pow_succ]; exact Int.mul_ne_zero (pow_ne_zeroI h n) h
theorem Bd.pow {a : Nat} {x : Int} (h : Bd a x) : ∀ n : Nat, Bd (n * a + 1) (x ^ n)
  | 0 => by
    rw [Int.pow_zero]
    exact (bd_lit (n := 1) (by decide)).mono (by omega)
  | n + 1 => by
    rw [Int.pow_succ]
    exact ((Bd.pow h n).mul h).mono (by rw [Nat.succ_mul]; omega)
def S_qraised (C Z : Addr) : SpecD := fun ds m K E => ∃ x n a, ds = [rq C x, .int n] ∧ Qb a x ∧ a ≤ 100 ∧
  ((¬ (0 ≤ n ∧ n ≤ 64) ∧ E ⟨Z, ["value"], [.int n]⟩ m) ∨ (0 ≤ n ∧ n ≤ 64 ∧ K (rq C (x ^ n.toNat)) m))
theorem use_qraised {n : Int} {a : Nat} (h : Qb a x) (ha : a ≤ 100) (h0 : 0 ≤ n) (h1 : n ≤ 64) (q : K (rq C (x ^ n.toNat)) m) : S_qraised C Z [rq C x, .int n] m K F := ⟨x, n, a, rfl, h, ha, .inr ⟨h0, h1, q⟩⟩
end
end DL
set_option Elab.async false
set_option linter.all false
set_option maxRecDepth 100000
/-! MF: Euclid's turns, counted by Fibonacci's numbers. -/
namespace DL
def fibp : Nat → Nat × Nat
  | 0 => (0, 1)
  | n + 1 => ((fibp n).2, (fibp n).1 + (fibp n).2)
def fb (n : Nat) : Nat := (fibp n).1
theorem fb_two (n : Nat) : fb (n + 2) = fb n + fb (n + 1) := rfl
/-- k turns from (.., b): (u, v) -/
def EuF (b k u v : Nat) : Prop := (k = 0 ∧ v = b) ∨ (∃ j, k = j + 1 ∧ v < u ∧ fb (j + 1) * u + fb j * v ≤ b)
theorem EuF.step {b k u v : Nat} (h : EuF b k u v) (hv : 0 < v) : EuF b (k + 1) v (u % v) := by
  have hm := Nat.mod_lt u hv
  rcases h with ⟨rfl, rfl⟩ | ⟨j, rfl, lt, le⟩
  · refine .inr ⟨0, rfl, hm, ?_⟩
    show 1 * v + 0 * _ ≤ v
    omega
  · refine .inr ⟨j + 1, rfl, hm, ?_⟩
    have e := Nat.div_add_mod u v
    have q : 1 ≤ u / v := (Nat.one_le_div_iff hv).mpr (by omega)
    have q2 : v * 1 ≤ v * (u / v) := Nat.mul_le_mul_left _ q
    have q3 : v + u % v ≤ u := by omega
    have q4 : fb (j + 1) * (v + u % v) ≤ fb (j + 1) * u := Nat.mul_le_mul_left _ q3
    rw [show fb (j + 1 + 1) = fb j + fb (j + 1) from fb_two j]
    rw [Nat.mul_add] at q4
    rw [Nat.add_mul]
    omega
theorem fb_big : 2 ^ 1000 ≤ fb 1500 := by decide +kernel
theorem EuF.early {b u v : Nat} (h : EuF b 1500 u v) (hb : b < 2 ^ 1000) : False := by
  rcases h with ⟨h, _⟩ | ⟨j, e, lt, le⟩
  · exact absurd h (by decide)
  · obtain rfl : j = 1499 := by omega
    have h1 : fb 1500 * 1 ≤ fb 1500 * u := Nat.mul_le_mul_left _ (by omega)
    have h2 := fb_big
    have h3 : fb (1499 + 1) = fb 1500 := rfl
    rw [h3] at le
    omega
theorem fb_mono (n : Nat) : fb (n + 1) ≤ fb (n + 2) := by
  rw [fb_two n]
  omega
theorem fb_pow : ∀ L : Nat, 2 ^ L ≤ fb (2 * L + 2)
  | 0 => by decide
  | L + 1 => by
    have e : 2 * (L + 1) + 2 = (2 * L + 2) + 2 := by omega
    rw [e, fb_two]
    have h := fb_pow L
    have m := fb_mono (2 * L + 1)
    have m' : fb (2 * L + 2) ≤ fb (2 * L + 2 + 1) := m
    rw [Nat.pow_succ]
    omega
theorem EuF.earlyL {b L u v : Nat} (h : EuF b (2 * L + 2) u v) (hb : b < 2 ^ L) : False := by
  rcases h with ⟨h, _⟩ | ⟨j, e, lt, le⟩
  · omega
  · obtain rfl : j = 2 * L + 1 := by omega
    have h1 : fb (2 * L + 1 + 1) * 1 ≤ fb (2 * L + 1 + 1) * u := Nat.mul_le_mul_left _ (by omega)
    have h2 := fb_pow L
    have h3 : fb (2 * L + 1 + 1) = fb (2 * L + 2) := rfl
    omega
theorem bits_lt (i : Int) : i.natAbs < 2 ^ PySem.Builtin.Int.intBits i := by
  unfold PySem.Builtin.Int.intBits
  split
  · simp_all
  · exact Nat.lt_log2_self
end DL
set_option Elab.async false
set_option linter.all false
set_option maxRecDepth 100000
/-! DL18: two new lists joined. -/
namespace DL
open PySem PySem.Spec L2
open PyProof.Rows hiding St
section
variable {W : WX} {E : ET} {r : Rho} {m : Mu} {K : KT} {G : Gx} {j : Nat}
/-- xs + zs: both were made just now; neither is written any more -/
theorem w2_catM {a b : Addr} {xs zs : List D} (hl : Nat.ble (xs.length + zs.length) 1000 = true) (h : K (.lst (xs ++ zs)) m) : W2 W E (oAdd G j W) (.ref a) (.ref b) r ((b, .lst zs) :: (a, .lst xs) :: m) K := fun s H Q x y e z rx ry g => by
  cases rx
  cases ry
  have q1 := (At.tail .head : At ((b, MO.lst zs) :: (a, MO.lst xs) :: m) a (.lst xs)).rep e.mu
  have q2 := (At.head : At ((b, MO.lst zs) :: (a, MO.lst xs) :: m) b (.lst zs)).rep e.mu
  have mu := e.mu.drop.drop
  have ls : Stp (dom ((b, MO.lst zs) :: (a, MO.lst xs) :: m)) H (dom m) H := Stp.less fun a z => dom_cons.mpr (.inr (dom_cons.mpr (.inr z)))
  cases q1 with
  | lst h1 r1 =>
    cases q2 with
    | lst h2 r2 =>
      refine .inr (.inr (.inl ⟨a, b, _, _, rfl, rfl, h1, h2, ?_, fun p hp => ?_⟩))
      · rw [← r1.length, ← r2.length]
        exact Nat.le_trans (Nat.le_of_ble_eq_true hl) (by decide : 1000 ≤ sizeLine)
      · exact g _ m _ _ (ls.trans (Stp.new hp)) (mu.new hp) (.lst (fun zz => by obtain ⟨u, hu⟩ := mu.there zz; rw [hp] at hu; cases hu) (.inl upd_same) ((Reps.append r1 r2).mono (ls.trans (Stp.new hp)))) h
/-- the two newest mutable objects the other way round -/
theorem Ws.swap {t : TS} {P : DEnds} {p q : Addr × MO} (h : Ws W E t r (q :: p :: m) P) : Ws W E t r (p :: q :: m) P := fun s H De e z g => by
  have ls : Stp (dom (p :: q :: m)) H (dom (q :: p :: m)) H := Stp.less fun a z => by
    rcases dom_cons.mp z with z | z
    · exact dom_cons.mpr (.inr (dom_cons.mpr (.inl z)))
    · rcases dom_cons.mp z with z | z
      · exact dom_cons.mpr (.inl z)
      · exact dom_cons.mpr (.inr (dom_cons.mpr (.inr z)))
  have mu := e.mu
  have nd := mu.nd
  have mu2 : MutR (q :: p :: m) H := by
    refine ⟨?_, fun x hx => ?_⟩
    · simp only [List.map_cons] at nd ⊢
      have h1 := List.nodup_cons.mp nd
      have h2 := List.nodup_cons.mp h1.2
      refine List.nodup_cons.mpr ⟨fun z => ?_, List.nodup_cons.mpr ⟨fun z => h1.1 (List.mem_cons_of_mem _ z), h2.2⟩⟩
      rcases List.mem_cons.mp z with z | z
      · exact h1.1 (by rw [← z]; exact List.mem_cons_self)
      · exact h2.1 z
    · have hx' : x ∈ p :: q :: m := by
        rcases List.mem_cons.mp hx with z | z
        · exact List.mem_cons_of_mem _ (by rw [z]; exact List.mem_cons_self)
        · rcases List.mem_cons.mp z with z | z
          · rw [z]; exact List.mem_cons_self
          · exact List.mem_cons_of_mem _ (List.mem_cons_of_mem _ z)
      exact (mu.at_ x hx').mono ls fun _ e => e
  exact h s H De ⟨e.env.mono ls, mu2⟩ (z.step ls) ⟨fun r' m' s' H' a b k => g.nx r' m' s' H' (ls.trans a) b k, fun d m' v H' a b c k => g.rt d m' v H' (ls.trans a) b c k, fun r' m' s' H' a b k => g.bk r' m' s' H' (ls.trans a) b k, fun r' m' s' H' a b k => g.ct r' m' s' H' (ls.trans a) b k⟩
/-- xs.count(k), bools all -/
theorem we_bcnt {to : TE} {ta : TA} (h : We W E to r m fun o m1 => ∃ (xs : List D) (bs : List Bool), o = .lst xs ∧ xs = bs.map D.bl ∧ Wa W E ta r m1 fun ds m2 => ∃ k, ds = [.bl k] ∧ K (.int (bs.count k : Nat)) m2) : We W E (tBM G.K "list" (rCntB G.K) to ta) r m K := fun s H Q e z g =>
  h s H _ e z fun o m1 v H1 s1 mu1 r1 q => by
    obtain ⟨xs, bs, rfl, rfl, q⟩ := q
    cases r1 with
    | @lst a _ vs mm hh rr =>
      have e1 := rep_bls rr
      subst e1
      refine ⟨Or.inl ⟨rfl, _, rd_l hh⟩, ?_⟩
      refine q s H1 _ (e.step s1 mu1) (z.step s1) fun ds m2 vs H2 s2 mu2 r2 q2 => ?_
      obtain ⟨k, rfl, kk⟩ := q2
      cases r2 with
      | cons rd t =>
        cases t
        cases rd
        exact ⟨a, bs, k, rfl, rfl, rd_l (s2.rd mm hh).1, g _ m2 _ _ (s1.trans s2) mu2 (.int _) kk⟩
end
section
variable {X : Cx} {KK : PySem.W.Frag} {o e : Expr} {es : List Expr} {to : TE} {t : TA} {apos cpos : Pos}
/-- .. as a term, also within an except suite -/
theorem pe_cntK (hK : X.K = KK) (ho : PE X o to) (ha : PA X (e :: es) t)
    (hbase : attributeBase o "count" X.env (eval o X.env) = eval o X.env := by rfl)
    (hfew : ((backTo cpos (starEach (e :: es) X.env)).all (fun x => !x.1) && (backToKw cpos (keywordEach [] X.env)).all (fun x => x.1.isSome)
      && decide ((e :: es).length + ([] : List Keyword).length + (if ([] : List Keyword).isEmpty then 0 else 1) < 30)) = true := by rfl)
    (hline : (apos.endLine == cpos.line) = true := by rfl) (hs : starEach (e :: es) X.env = (false, eval e X.env) :: starEach es X.env := by rfl) (hplain : (backTo cpos (starEach es X.env)).any (·.1) = false := by rfl) :
    PE X (.Call (.Attribute o "count" apos) (e :: es) [] cpos) (tBM KK "list" (rCntB KK) to t) := by
  subst hK
  exact pe_bm PySem.F.plainAttrs_list PySem.F.slot_list_count PySem.F.type_list_count mt_bcount ho ha hbase hfew hline hs hplain
end
end DL
set_option Elab.async false
set_option linter.all false
set_option maxRecDepth 100000
/-! DL19: try with several clauses, each with a name: except X as n: .., except Y as k: .. -/
namespace DL
open PySem PySem.Spec L2
open PyProof.Rows hiding St
section
variable {X : Cx} {pins : List (Addr × Obj)} {σ : L2.St} {H : Hp} {s sI : Shared} {a : Addr} {cls : Value} {d : Option Addr} {B : Heap}
/-- a caught exception at a: the state s is sI but for it -/
structure Got (X : Cx) (pins : List (Addr × Obj)) (σ : L2.St) (H : Hp) (sI s : Shared) (a : Addr) (cls : Value) (d : Option Addr) (B : Heap) : Prop where
  inv : Inv X pins σ H sI
  old : ∀ b o, sI.heap.get? b = some o → b ∉ frs X.stack → B.get? b = some o
  up : sI.heap.UpToSlots s.heap
  fly : HandSPX.FlyingZ B (X.env :: X.outer) a (L2N.Zn cls d) s.heap
  os : s.os = sI.os
  gens : AllBare s.gens
  na : H a = none
theorem Got.here (g : Got X pins σ H sI s a cls d B) : Inv X pins σ H s := g.inv.landed g.old g.fly.1 g.up g.os g.gens
theorem Got.again {h : Heap} (g : Got X pins σ H sI s a cls d B) (f : HandSPX.FlyingZ B (X.env :: X.outer) a (L2N.Zn cls d) h) (u : s.heap.UpToSlots h) : Got X pins σ H sI { s with heap := h } a cls d B :=
  ⟨g.inv, g.old, g.up.trans u, f, g.os, g.gens, g.na⟩
/-- the suite's state -/
theorem Got.low {oe : Obj} {vs : Array Value} (g : Got X pins σ H sI s a cls d B) (hf : X.env.frame = some X.env.locals) (ho : s.heap.get? a = some oe) (hd : oe.data = .fields vs) :
    Inv (X.suite a ((a, oe) :: (X.pn ++ pins))) [] σ H s := by
  have off : a ∉ frs (X.env :: X.outer) := fun m => by
    obtain ⟨_, u, e, n⟩ := g.fly.2.2.1.mem m
    cases ho.symm.trans e
    exact n _ hd
  refine g.here.suite ho hd g.na (fun e => off ?_) (fun m => off ?_)
  · exact List.mem_filterMap.mpr ⟨X.env, .head _, by rw [hf, e]⟩
  · obtain ⟨v, m1, m2⟩ := List.mem_filterMap.mp m
    exact List.mem_filterMap.mpr ⟨v, .tail _ m1, m2⟩
abbrev Hnd (X : Cx) (pins : List (Addr × Obj)) (D : Ends) (hs : List ExceptHandler) (a : Addr) (s : Shared) : Prop := wpAny (model X.prog X.w) X.A (handleBy (.ref a) X.env hs) (SP X pins D) X.xe s
/-- no clause is left: it flies on -/
theorem Got.none {W : WX} {D : Ends} (g : Got X pins σ H sI s a cls d B) (hs : X.stack = X.env :: X.outer) (hf : X.env.frame = some X.env.locals) (tk : L2N.Takes X W) (w : W cls d σ H) : Hnd X pins D [] a s := by
  refine wpAny_handleBy_nil ?_
  obtain ⟨oe, vs, t, ot, ts, ho, _, hd, h1, _⟩ := id g.fly.2.2.2
  have fin : wpAny (model X.prog X.w) X.A (setFlight (.ref a) X.env.frame) (fun _ s1 => wpAny (model X.prog X.w) X.A (throw (.ref a) : Sem Flow) (SP X pins D) X.xe s1) X.xe s := by
    rw [hf]
    exact HandSPX.setFlight_upZ g.fly fun h hh u => wpAny_throw (tk _ _ ⟨a, B, sI, pins, σ, H, cls, d, rfl, g.inv, g.old, g.up.trans u, .inr (.inr (by rw [hs]; exact hh)), g.na, g.os, g.gens, w⟩)
  unfold PySem.passOn
  refine wpAny_bind (wpAny_field ho hd h1 ?_)
  have nn : ¬ (Value.ref t == Value.none) = true := by simp
  rw [if_neg nn]
  first
    | exact wpAny_bind (wpAny_pure (wpAny_bind fin))
    | exact wpAny_bind fin
/-- one clause is asked; it takes it, or the others are asked -/
theorem Got.clause {x n : Str} {c : Value} {i : Nat} {b₀ : Stmt} {suite : List Stmt} {np p2 : Pos} {rest : List ExceptHandler} {ts : Addr → Value → Option Addr → TS} {W : WX} {D : Ends} (g : Got X pins σ H sI s a cls d B)
    (hf : X.env.frame = some X.env.locals) (hN : X.N.Nodup) (hi : X.N[i]? = some n) (hl : X.env.kindOf n = some .local) (hc : Names X x c)
    (su : ∀ (a : Addr) (oe : Obj) (cls : Value) (d : Option Addr) (pn : List (Addr × Obj)), L2N.Zn cls d oe → (∃ vs, oe.data = .fields vs) → PSs (X.suite a ((a, oe) :: pn)) (b₀ :: suite) (ts a cls d))
    (w : wAs X.K c i ts W D cls d σ H) (k : W cls d σ H → Hnd X pins D rest a s) : Hnd X pins D (.ExceptHandler (some (.Name x np)) (some n) (b₀ :: suite) p2 :: rest) a s := by
  obtain ⟨oe, vs, ho, hz, hd⟩ := g.fly.there
  have low := g.low hf ho hd
  obtain ⟨b, hb, yes, no⟩ := w
  refine wpAny_handleBy_cons (codeAny_handlers_test ?_) (fun q => nomatch q)
  have ask : ∀ {Q E : Value → Shared → Prop}, Q c s → wpAny (model X.prog X.w) (X.A.mark (some (.ref a))) (eval (.Name x np) X.env) Q E s := fun q => by
    rcases hc with ⟨h1, h2, h3 | ⟨h3, h4, h5⟩⟩
    · exact ld_glob (X := X.suite a ((a, oe) :: (X.pn ++ pins))) low h1 h3 q h2
    · exact ld_blt (X := X.suite a ((a, oe) :: (X.pn ++ pins))) low h1 h3 h4 q h5 h2
  have ty : PySem.W.Looks (model X.prog X.w) s.heap (typeOf (.ref a)) cls := fun A Q E z l q => wpAny_typeOf_ref (l _ _ ho) (by rw [hz.1]; exact q)
  refine ask ((PySem.W.exm_one (M := model X.prog X.w) g.here.kIn ty hb).here ?_)
  cases b with
  | false => exact k (no rfl)
  | true =>
    refine codeAny_handlers_suite_as (HandSPX.lands_againZ g.fly fun h fl u => ?_)
    have g2 := g.again fl u
    obtain ⟨oe2, vs2, ho2, hz2, hd2⟩ := g2.fly.there
    refine store_ok (X := X.suite a ((a, oe2) :: (X.pn ++ pins))) (v := .ref a) (g2.low hf ho2 hd2) hN hi (.inl hl) rfl (fun s5 S5 => ?_) (.inr hl)
    have run := (su a oe2 cls d (X.pn ++ pins) hz2 ⟨vs2, hd2⟩).run [] s5 _ H _ S5 (yes rfl a g.na)
    refine wpAny_mono run (fun f s6 z => ?_) (fun _ _ z => z.elim)
    have bye : ∀ {σ6 : L2.St} {H6 : Hp} {Q : Shared → Prop}, Inv (X.suite a ((a, oe2) :: (X.pn ++ pins))) [] σ6 H6 s6 → (∀ s7, Inv X pins (σ6.set i Option.none) H6 s7 → Q s7) →
        wpAny (model X.prog X.w) X.A (do bindName X.env n .none; unbindBehindTheSuite X.env n p2) (fun _ s7 => Q s7) X.xe s6 := fun S6 q => gone_ok (S6.unsuite g.inv.ok) hN hi hl q
    cases f with
    | ret u =>
      obtain ⟨v, σ6, H6, S6, rv, q⟩ := z
      exact bye S6 fun s7 J => ⟨_, _, _, J, rv, q⟩
    | next =>
      obtain ⟨σ6, H6, S6, q⟩ := z
      exact bye S6 fun s7 J => ⟨_, _, J, q⟩
    | brk =>
      obtain ⟨σ6, H6, S6, q⟩ := z
      exact bye S6 fun s7 J => ⟨_, _, J, q⟩
    | cont =>
      obtain ⟨σ6, H6, S6, q⟩ := z
      exact bye S6 fun s7 J => ⟨_, _, J, q⟩
end
def tTry2 (K : PySem.W.Frag) (c1 : Value) (i1 : Nat) (t1 : Addr → Value → Option Addr → TS) (c2 : Value) (i2 : Nat) (t2 : Addr → Value → Option Addr → TS) (tb : WX → TS) (W : WX) : TS := fun D σ H => tb (wAs K c1 i1 t1 (wAs K c2 i2 t2 W D) D) D σ H
theorem ps_tryD2 {X : Cx} {x1 n1 x2 n2 : Str} {c1 c2 : Value} {i1 i2 : Nat} {b1 b2 : Stmt} {body su1 su2 : List Stmt} {np1 np2 p1 p2 pos : Pos} {tb : WX → TS} {t1 t2 : Addr → Value → Option Addr → TS} {W : WX}
    (hs : X.stack = X.env :: X.outer) (hf : X.env.frame = some X.env.locals) (hN : X.N.Nodup) (hi1 : X.N[i1]? = some n1) (hl1 : X.env.kindOf n1 = some .local) (hi2 : X.N[i2]? = some n2) (hl2 : X.env.kindOf n2 = some .local) (hc1 : Names X x1 c1) (hc2 : Names X x2 c2) (tk : L2N.Takes X W)
    (hb : ∀ (W : WX) (pn : List (Addr × Obj)) (xe : Value → Shared → Prop), L2N.Takes (X.tr pn xe) W → PassesOwn (model X.prog X.w) X.A X.env xe → PSs (X.tr pn xe) body (tb W))
    (hsu1 : ∀ (a : Addr) (oe : Obj) (cls : Value) (d : Option Addr) (pn : List (Addr × Obj)), L2N.Zn cls d oe → (∃ vs, oe.data = .fields vs) → PSs (X.suite a ((a, oe) :: pn)) (b1 :: su1) (t1 a cls d))
    (hsu2 : ∀ (a : Addr) (oe : Obj) (cls : Value) (d : Option Addr) (pn : List (Addr × Obj)), L2N.Zn cls d oe → (∃ vs, oe.data = .fields vs) → PSs (X.suite a ((a, oe) :: pn)) (b2 :: su2) (t2 a cls d)) :
    PS X (.Try body [.ExceptHandler (some (.Name x1 np1)) (some n1) (b1 :: su1) p1, .ExceptHandler (some (.Name x2 np2)) (some n2) (b2 :: su2) p2] [] [] pos) (tTry2 X.K c1 i1 t1 c2 i2 t2 tb W) := by
  constructor
  intro pins s σ H D I h
  have ok := I.ok
  refine wpAny_Try_except ?_
  have B := hb (wAs X.K c1 i1 t1 (wAs X.K c2 i2 t2 W D) D) (X.pn ++ pins) (fun e s1 => wpAny (model X.prog X.w) X.A (noteFrame e X.env) (fun _ s2 => wpAny (model X.prog X.w) X.A (setFlight e none)
    (fun _ s3 => wpAny (model X.prog X.w) X.A (handleBy e X.env [.ExceptHandler (some (.Name x1 np1)) (some n1) (b1 :: su1) p1, .ExceptHandler (some (.Name x2 np2)) (some n2) (b2 :: su2) p2]) (SP X pins D) X.xe s3) X.xe s2) X.xe s1) ?tk PassesOwn.looking
  case tk =>
    rintro u s' ⟨a, B, sI, pins', σ', H', cls, d, rfl, J, nb, up, sky, na, os, ag, w⟩
    refine L2N.Sky.land (env := X.env) (outer := X.outer) L2N.Zn.steady (by rw [ok.frames, hs]) hf (by rw [← hs]; exact sky) fun h3 fl up3 => ?_
    have g : Got X pins σ' H' sI { s' with heap := h3 } a cls d B := ⟨J.ofTry ok, nb, up.trans up3, fl, os, ag, na⟩
    exact g.clause hf hN hi1 hl1 hc1 hsu1 w fun w2 => g.clause hf hN hi2 hl2 hc2 hsu2 w2 fun w3 => g.none hs hf tk w3
  refine wpAny_mono (B.run [] s σ H D (I.toTry _) h) (fun f s1 z => ?_) fun e s1 z => z
  cases f with
  | next =>
    obtain ⟨σ', H', J, q⟩ := z
    exact wpAny_execs_nil ⟨σ', H', J.ofTry ok, q⟩
  | ret u =>
    obtain ⟨v, σ', H', J, r, q⟩ := z
    exact ⟨v, σ', H', J.ofTry ok, r, q⟩
  | brk =>
    obtain ⟨σ', H', J, q⟩ := z
    exact ⟨σ', H', J.ofTry ok, q⟩
  | cont =>
    obtain ⟨σ', H', J, q⟩ := z
    exact ⟨σ', H', J.ofTry ok, q⟩
section
variable {W : WX} {E : ET} {r : Rho} {m : Mu} {K : PySem.W.Frag} {P : DEnds} {c1 c2 : Value} {i1 i2 : Nat} {tb : WX → TS} {t1 t2 : Addr → Value → Option Addr → TS}
theorem wAs_rz {De : Ends} {c : Value} {i : Nat} {ts : Addr → Value → Option Addr → TS} {H : Hp} (z : Rz W E m H) (g : GoS m H P De) : Rz (wAs K c i ts W De) (eAs K c i ts P E) m H := by
  intro x r' m' cls dd s' H' st er rx ⟨b, hb, ht, hf⟩
  obtain rfl := rx.1
  refine ⟨b, hb, fun hbt a ha => ?_, fun hbf => z x r' m' _ dd s' H' st er rx (hf hbf)⟩
  have g' := g.step st
  refine ht hbt a dd _ H' _ (er.put (repX_exc rx)) (fun _ _ _ _ _ _ _ _ _ _ q => q.elim) ?_
  have back : ∀ {r2 : Rho} {m2 : Mu} {s2 : L2.St} {H2 : Hp}, EnvR r2 m2 s2 H2 → EnvR (r2.set i none) m2 (s2.set i none) H2 := fun e2 => ⟨e2.env.set (.none _) i, e2.mu⟩
  exact ⟨fun r2 m2 s2 H2 a2 b2 q => g'.nx _ m2 _ H2 a2 (back b2) q, g'.rt, fun r2 m2 s2 H2 a2 b2 q => g'.bk _ m2 _ H2 a2 (back b2) q, fun r2 m2 s2 H2 a2 b2 q => g'.ct _ m2 _ H2 a2 (back b2) q⟩
theorem ws_try2 (h : ∀ W', Ws W' (eAs K c1 i1 t1 P (eAs K c2 i2 t2 P E)) (tb W') r m P) : Ws W E (tTry2 K c1 i1 t1 c2 i2 t2 tb W) r m P := fun s H De e z g =>
  h _ s H De e (wAs_rz (wAs_rz z g) g) g
end
end DL
set_option Elab.async false
set_option linter.all false
set_option maxRecDepth 100000
/-! DL20: abs of an own instance; lists joined into a new one that is written later. -/
namespace DL
open PySem PySem.Spec L2
open PyProof.Rows hiding St
section
variable {X : Cx} {W : WX} {j k : Nat} {f : Addr} {fd : FuncData} {ps : List Str} {sp : Sp} {ds : List Value} {dvs : List V} {Ex : L2.St → XK} {CXx : CXT}
/-- an own def that a builtin calls -/
theorem run_in {pins : List (Addr × Obj)} {σ : L2.St} {H : Hp} {s : Shared} {Q : VK} {us : List Value} {vs : List V} (F : FnOk X.prog X.w X.K X.mg X.base CXx k f fd ps sp) (hr : Room (k + 1) X.A) (hb : Binds X.K fd ps ds) (hd : Vals dvs ds) (hx : PassesAt CXx X σ (Ex σ))
    (I : Inv X pins σ H s) (r : Vals vs us) (h : sp (vs ++ dvs) H Q (Ex σ)) : wpAny (model X.prog X.w) X.A.in1 (call (.ref f) us) (EP X pins σ Q) X.xe s := by
  have rr := r.append hd
  have n : (us ++ ds).length = ps.length := rr.length.symm.trans (F.len _ _ _ _ h)
  have go := F.run X.A.in1 X.stack s H ⟨us, []⟩ (us ++ ds) (vs ++ dvs) Q (Ex σ) hr.in1 I.env0.in1 (hb s us I.kIn n) rr h
  refine wpAny_call (codeAny_mono go ?_)
  intro res s' z
  match res, z with
  | .error e, z => exact hx pins H s e s' I z
  | .ok (.ret u), z => exact I.after z
  | .ok .next, z => exact z.elim
  | .ok .brk, z => exact z.elim
  | .ok .cont, z => exact z.elim
def cAbsO (G : Gx) (j : Nat) (W : WX) : OC := fun xs σ H Q => rAbsI xs H Q ∨ ∃ (a C dx : Addr) (fs : List (Str × V)) (k : Nat) (S : SpecD), xs = [.ref a] ∧ H a = some (.ins C dx fs) ∧ k + 1 ≤ j ∧ Opr G k C "__abs__" 1 S ∧ spD 1 S xs H Q (WE W σ)
theorem cs_absO (hr : Room j X.A) (tk : L2N.Takes X W) : CallS X (.builtin "abs") (cAbsO (Gx.of X) j W) := by
  intro pins s σ H xs us Q I ru h
  rcases h with h | h
  · exact cs_abs pins s σ H xs us Q I ru h
  · obtain ⟨a, C, dx, fs, k, S, rfl, ha, hk, O, q⟩ := h
    cases ru with
    | cons r t =>
      cases t
      obtain rfl : _ = Value.ref a := r
      obtain ⟨f, ⟨⟨fd, ps, ds, F, bd, d⟩, cs⟩, h1, h2⟩ := O.ex
      obtain ⟨od, J⟩ := inst_of I ha
      have run := run_in (Ex := WE W) (us := [.ref a]) (vs := [.ref a]) F (hr.mono hk) bd d (L2N.passAt tk σ) I (.cons rfl .nil) q
      refine Calls.call_function_entry kind_abs plain_abs entry_abs (args_abs _) ?_
      unfold Builtin.«abs»
      refine wpAny_bind (m := oneArg "abs" _) (wpAny_pure ?_)
      refine wpAny_bind (m := callSpecial? (.ref a) (Str.ofString "__abs__")) (PySem.W.special_fn I.kIn J h1 (beq_iff_eq.mp h2) ?_)
      refine wpAny_mono run (fun r s' hq => ?_) fun _ _ z => z
      exact wpAny_pure ⟨_, rfl, hq⟩
end
section
variable {W : WX} {E : ET} {r : Rho} {m : Mu} {K : KT} {G : Gx} {j k : Nat} {C : Addr} {ns : List Str} {ds : List D} {S : SpecD} {d : D}
theorem wc_absI {i : Int} (h : K (.int (i.natAbs : Int)) m) : Wc W E (cAbsO G j W) [.int i] r m K := fun s H Q vs e z rs g => .inl (wc_abs (K := K) h s H Q vs e z rs g)
theorem wc_absO (O : Opr G k C "__abs__" 1 S) (hk : k + 1 ≤ j) (fi : FldD d m C ns ds) (h : S [d] m K fun x m' => E x r m') : Wc W E (cAbsO G j W) [d] r m K := fun s H Q vs e z rs g => by
  cases rs with
  | cons rv t =>
    cases t
    obtain ⟨p, dx, gs, rfl, hp, _⟩ := fi.look e.mu rv
    exact .inr ⟨p, C, dx, gs, k, S, rfl, hp, hk, O, spD_of rfl e z g (.cons rv .nil) h fun _ _ q => q⟩
/-- xs + zs, made just now, joined into a list that is written or joined again -/
theorem w2_catN {a b : Addr} {xs zs : List D} (hl : Nat.ble (xs.length + zs.length) 1000 = true) (h : ∀ p, ¬ dom m p → K (.ref p) ((p, .lst (xs ++ zs)) :: m)) : W2 W E (oAdd G j W) (.ref a) (.ref b) r ((b, .lst zs) :: (a, .lst xs) :: m) K := fun s H Q x y e z rx ry g => by
  cases rx
  cases ry
  have q1 := (At.tail .head : At ((b, MO.lst zs) :: (a, MO.lst xs) :: m) a (.lst xs)).rep e.mu
  have q2 := (At.head : At ((b, MO.lst zs) :: (a, MO.lst xs) :: m) b (.lst zs)).rep e.mu
  have mu := e.mu.drop.drop
  have ls : Stp (dom ((b, MO.lst zs) :: (a, MO.lst xs) :: m)) H (dom m) H := Stp.less fun a z => dom_cons.mpr (.inr (dom_cons.mpr (.inr z)))
  cases q1 with
  | lst h1 r1 =>
    cases q2 with
    | lst h2 r2 =>
      refine .inr (.inr (.inl ⟨a, b, _, _, rfl, rfl, h1, h2, ?_, fun p hp => ?_⟩))
      · rw [← r1.length, ← r2.length]
        exact Nat.le_trans (Nat.le_of_ble_eq_true hl) (by decide : 1000 ≤ sizeLine)
      · have st : ∀ o, Stp (dom ((b, MO.lst zs) :: (a, MO.lst xs) :: m)) H (dom ((p, MO.lst (xs ++ zs)) :: m)) (upd H p o) := fun o => ls.trans (Stp.newM hp)
        have nd : ¬ dom m p := fun w => by
          obtain ⟨u, hu⟩ := mu.there w
          rw [hp] at hu
          cases hu
        exact g _ _ _ _ (st _) (mu.newM hp (.lst upd_same ((Reps.append r1 r2).mono (st _)))) (.ref p) (h p nd)
end
end DL
set_option Elab.async false
set_option linter.all false
set_option maxRecDepth 100000
/-! DQ8: Ratio by its number, of any digits: what // by the greatest common divisor wants is said. -/
namespace DL
open PySem PySem.Spec L2
open PyProof.Rows hiding St
theorem CDivX.neg {i j : Int} (h : CDivX i j) : CDivX i (-j) := ⟨by have := h.1; omega, by rw [Int.natAbs_neg]; exact h.2⟩
/-- // by the greatest common divisor can be done -/
def Dok (t b : Int) : Prop := CDivX t (gc t b) ∧ CDivX b (gc t b)
theorem dok_bd {a : Nat} {t b : Int} (n : b ≠ 0) (h : Bd a b) (l : a < 9000) : Dok t b := by
  have g := gc_pos (t := t) n
  have gb := gc_bd (t := t) n h
  exact ⟨gb.divX (by omega) l, gb.divX (by omega) l⟩
theorem dok_gc {a : Nat} {t b : Int} (n : b ≠ 0) (h : Bd a (gc t b)) (l : a < 9000) : Dok t b := by
  have g := gc_pos (t := t) n
  exact ⟨h.divX (by omega) l, h.divX (by omega) l⟩
theorem gc_one {t b : Int} (h : Nat.gcd t.natAbs b.natAbs = 1) : gc t b = 1 := by
  unfold gc
  rw [h]
  rfl
theorem dok_one {t b : Int} (h : Nat.gcd t.natAbs b.natAbs = 1) : Dok t b := by
  have e := gc_one h
  have c : ∀ z : Int, CDivX z (gc t b) := fun z => by
    rw [e]
    exact ⟨by decide, .inl (by decide +kernel)⟩
  exact ⟨c _, c _⟩
theorem dok_zero {b : Int} (n : b ≠ 0) : Dok 0 b := by
  have e : gc 0 b = (b.natAbs : Int) := by
    unfold gc
    rw [Int.natAbs_zero, Nat.gcd_zero_left]
  have n' : gc 0 b ≠ 0 := by omega
  refine ⟨⟨n', .inr ?_⟩, ⟨n', .inr ?_⟩⟩
  · rw [e]
    exact Nat.le_trans (Nat.le_of_eq (by decide +kernel : (0 : Int).natAbs.log2 = 0)) (Nat.zero_le _)
  · rw [e, Int.natAbs_natCast]
    exact Nat.le_add_right _ _
theorem dok_same {t : Int} (n : t ≠ 0) : Dok t t := by
  have e : gc t t = (t.natAbs : Int) := by
    unfold gc
    rw [Nat.gcd_self]
  have n' : gc t t ≠ 0 := by omega
  have c : CDivX t (gc t t) := ⟨n', .inr (by rw [e, Int.natAbs_natCast]; exact Nat.le_add_right _ _)⟩
  exact ⟨c, c⟩
/-- __init__ -/
def S_ginit (C Z : Addr) : SpecD := fun ds m K E => ∃ x m0 t b, ds = [.ref x, .int t, .int b] ∧ m = (x, .ins C [] []) :: m0 ∧
  ((b = 0 ∧ E ⟨Z, [], []⟩ m) ∨ (b ≠ 0 ∧ Dok t b ∧ K .non ((x, .ins C ["top", "bottom"] [.int (rT t b), .int (rB t b)]) :: m0)))
structure RatG (t b : Int) (K : Prop) : Prop where
  nz : b ≠ 0
  ok : Dok t b
  k : K
abbrev Sz (x : Rat) : Prop := Qb 1000000 x
def qabs (x : Rat) : Rat := dv (x.num.natAbs : Int) x.den
section
variable {W : WX} {E : ET} {ta : TA} {r : Rho} {m : Mu} {K : KT} {C Z : Addr}
theorem we_ratG (h : Wa W E ta r m fun ds m1 => ∃ p q, ds = [.int p, .int q] ∧ RatG p q (K (rq C (dv p q)) m1)) : We W E (tMk C 3 (S_ginit C Z) [] W ta) r m K :=
  we_mk0 (h.imp fun ds m1 ⟨p, q, e, h0, ok, k⟩ => by
    subst e
    exact ⟨rfl, fun x _ => ⟨x, m1, p, q, rfl, rfl, .inr ⟨h0, ok, _, _, rfl, rfl, by rw [(rT_dv h0).1, (rT_dv h0).2]; exact k⟩⟩⟩)
theorem we_ratZ (h : Wa W E ta r m fun ds m1 => ∃ p, ds = [.int p, .int 0] ∧ E ⟨Z, [], []⟩ r m1) : We W E (tMk C 3 (S_ginit C Z) [] W ta) r m K :=
  we_mk0 (h.imp fun ds m1 ⟨p, e, k⟩ => by
    subst e
    exact ⟨rfl, fun x _ => ⟨x, m1, p, 0, rfl, rfl, .inl ⟨rfl, _, rfl, k⟩⟩⟩)
theorem we_ratG1 (h : Wa W E ta r m fun ds m1 => ∃ p, ds = [.int p] ∧ K (rq C (p : Rat)) m1) : We W E (tMk C 3 (S_ginit C Z) [.int 1] W ta) r m K :=
  we_mk1 rfl (h.imp fun ds m1 ⟨p, e, k⟩ => by
    subst e
    have e1 : rT p 1 = p := (rat_low (by decide) (Nat.gcd_one_right _)).1
    have e2 : rB p 1 = 1 := (rat_low (t := p) (by decide) (Nat.gcd_one_right _)).2
    exact ⟨rfl, fun x _ => ⟨x, m1, p, 1, rfl, rfl, .inr ⟨by decide, dok_one (Nat.gcd_one_right _), _, _, rfl, rfl, by rw [e1, e2]; exact k⟩⟩⟩)
def S_gadd (C : Addr) : SpecD := fun ds m K _ => ∃ x y, ds = [rq C x, rq C y] ∧ Sz x ∧ Sz y ∧ Dok (x.num * y.den + y.num * x.den) (x.den * y.den) ∧ K (rq C (x + y)) m
def S_gsub (C : Addr) : SpecD := fun ds m K _ => ∃ x y, ds = [rq C x, rq C y] ∧ Sz x ∧ Sz y ∧ Dok (x.num * y.den - y.num * x.den) (x.den * y.den) ∧ K (rq C (x - y)) m
def S_gmul (C : Addr) : SpecD := fun ds m K _ => ∃ x y, ds = [rq C x, rq C y] ∧ Sz x ∧ Sz y ∧ Dok (x.num * y.num) (x.den * y.den) ∧ K (rq C (x * y)) m
def S_gdiv (C Z : Addr) : SpecD := fun ds m K E => ∃ x y, ds = [rq C x, rq C y] ∧ Sz x ∧ Sz y ∧ ((y = 0 ∧ E ⟨Z, [], []⟩ m) ∨ (y ≠ 0 ∧ Dok (x.num * y.den) (x.den * y.num) ∧ K (rq C (x / y)) m))
def S_gneg (C : Addr) : SpecD := fun ds m K _ => ∃ x, ds = [rq C x] ∧ K (rq C (-x)) m
def S_gabs (C : Addr) : SpecD := fun ds m K _ => ∃ x, ds = [rq C x] ∧ K (rq C (qabs x)) m
def S_graised (C Z : Addr) : SpecD := fun ds m K E => ∃ x n, ds = [rq C x, .int n] ∧ Qb 15000 x ∧ ((¬ (0 ≤ n ∧ n ≤ 64) ∧ E ⟨Z, ["value"], [.int n]⟩ m) ∨ (0 ≤ n ∧ n ≤ 64 ∧ K (rq C (x ^ n.toNat)) m))
def S_gcmp (C : Addr) : SpecD := fun ds m K _ => ∃ x y, ds = [rq C x, rq C y] ∧ Sz x ∧ Sz y ∧ K (.int (cq x y)) m
def S_gsign (C : Addr) : SpecD := fun ds m K _ => ∃ x, ds = [rq C x] ∧ K (.int (cq x 0)) m
def S_gdown (C : Addr) : SpecD := fun ds m K _ => ∃ x, ds = [rq C x] ∧ CDivX x.num x.den ∧ K (.int (x.num / x.den)) m
def S_gup (C : Addr) : SpecD := fun ds m K _ => ∃ x, ds = [rq C x] ∧ CDivX (-x.num) x.den ∧ K (.int (-(-x.num / x.den))) m
variable {F : Ex → Mu → Prop} {x y : Rat} {n : Int}
theorem use_gadd (h : Sz x) (k : Sz y) (d : Dok (x.num * y.den + y.num * x.den) (x.den * y.den)) (q : K (rq C (x + y)) m) : S_gadd C [rq C x, rq C y] m K F := ⟨x, y, rfl, h, k, d, q⟩
theorem use_gsub (h : Sz x) (k : Sz y) (d : Dok (x.num * y.den - y.num * x.den) (x.den * y.den)) (q : K (rq C (x - y)) m) : S_gsub C [rq C x, rq C y] m K F := ⟨x, y, rfl, h, k, d, q⟩
theorem use_gmul (h : Sz x) (k : Sz y) (d : Dok (x.num * y.num) (x.den * y.den)) (q : K (rq C (x * y)) m) : S_gmul C [rq C x, rq C y] m K F := ⟨x, y, rfl, h, k, d, q⟩
theorem use_gdiv (h : Sz x) (k : Sz y) (n : y ≠ 0) (d : Dok (x.num * y.den) (x.den * y.num)) (q : K (rq C (x / y)) m) : S_gdiv C Z [rq C x, rq C y] m K F := ⟨x, y, rfl, h, k, .inr ⟨n, d, q⟩⟩
theorem use_gdivZ (h : Sz x) (k : Sz y) (n : y = 0) (q : F ⟨Z, [], []⟩ m) : S_gdiv C Z [rq C x, rq C y] m K F := ⟨x, y, rfl, h, k, .inl ⟨n, q⟩⟩
theorem use_gneg (q : K (rq C (-x)) m) : S_gneg C [rq C x] m K F := ⟨x, rfl, q⟩
theorem use_gabs (q : K (rq C (qabs x)) m) : S_gabs C [rq C x] m K F := ⟨x, rfl, q⟩
theorem use_graised (h : Qb 15000 x) (h0 : 0 ≤ n) (h1 : n ≤ 64) (q : K (rq C (x ^ n.toNat)) m) : S_graised C Z [rq C x, .int n] m K F := ⟨x, n, rfl, h, .inr ⟨h0, h1, q⟩⟩
theorem use_graisedZ (h : Qb 15000 x) (z : ¬ (0 ≤ n ∧ n ≤ 64)) (q : F ⟨Z, ["value"], [.int n]⟩ m) : S_graised C Z [rq C x, .int n] m K F := ⟨x, n, rfl, h, .inl ⟨z, q⟩⟩
theorem use_gcmp (h : Sz x) (k : Sz y) (q : K (.int (cq x y)) m) : S_gcmp C [rq C x, rq C y] m K F := ⟨x, y, rfl, h, k, q⟩
theorem use_gsign (q : K (.int (cq x 0)) m) : S_gsign C [rq C x] m K F := ⟨x, rfl, q⟩
theorem use_gdown (h : CDivX x.num x.den) (q : K (.int (x.num / x.den)) m) : S_gdown C [rq C x] m K F := ⟨x, rfl, h, q⟩
theorem use_gup (h : CDivX (-x.num) x.den) (q : K (.int (-(-x.num / x.den))) m) : S_gup C [rq C x] m K F := ⟨x, rfl, h, q⟩
end
theorem cop_pow {a b : Nat} (h : Nat.gcd a b = 1) (n : Nat) : Nat.gcd (a ^ n) (b ^ n) = 1 := Nat.Coprime.pow n n h
end DL
set_option Elab.async false
set_option linter.all false
set_option maxRecDepth 100000
set_option maxHeartbeats 4000000
namespace K01
open PySem PySem.Spec L2 DL
open PyProof.Rows hiding St
def top (i : Nat) : Stmt := PySem.Challenge.pw_fewcarry_k01_fraction_arithmetic.main.body.getD i (.Pass ⟨0, 0, 0, 0⟩)
abbrev s_OutOfBounds___init__ : Stmt := inClass (top 4) 0
abbrev s_Ratio___init__ : Stmt := inClass (top 14) 0
abbrev s_Ratio___add__ : Stmt := inClass (top 14) 4
abbrev s_Ratio___sub__ : Stmt := inClass (top 14) 5
abbrev s_Ratio___mul__ : Stmt := inClass (top 14) 6
abbrev s_Ratio___neg__ : Stmt := inClass (top 14) 7
abbrev s_Ratio___abs__ : Stmt := inClass (top 14) 8
abbrev s_Ratio___pow__ : Stmt := inClass (top 14) 9
abbrev s_Ratio_raised : Stmt := inClass (top 14) 10
abbrev s_Ratio_divided : Stmt := inClass (top 14) 11
abbrev s_Ratio_compare : Stmt := inClass (top 14) 12
abbrev s_Ratio_sign : Stmt := inClass (top 14) 13
abbrev s_Ratio_rounded_down : Stmt := inClass (top 14) 14
abbrev s_Ratio_rounded_up : Stmt := inClass (top 14) 15
abbrev s_simplest : Stmt := top 16
abbrev s__simplest_above_zero : Stmt := top 17
abbrev s__law_start : Stmt := top 19
abbrev s__law_digit : Stmt := top 20
abbrev s__law_fraction : Stmt := top 21
abbrev s__law_handed : Stmt := top 22
abbrev s__law_lowest : Stmt := top 23
abbrev s__law_plus : Stmt := top 24
abbrev s__law_times : Stmt := top 25
abbrev s__law_is : Stmt := top 26
abbrev s__law_no_bottom : Stmt := top 27
abbrev s__law_no_quotient : Stmt := top 28
abbrev s__law_no_exponent : Stmt := top 29
abbrev s__law_four : Stmt := top 30
abbrev s__law_small_powers : Stmt := top 31
abbrev s__law_drawn_power : Stmt := top 32
abbrev s__law_all_powers : Stmt := top 33
abbrev s__law_great_powers : Stmt := top 34
abbrev s__law_alone : Stmt := top 35
abbrev s__law_long_four : Stmt := top 36
abbrev s__law_long_order : Stmt := top 37
abbrev s__law_long : Stmt := top 38
abbrev s_law : Stmt := top 39

theorem nd_self : (("self" : Str) == ("__debug__" : Str)) = false ∧ (("self" : Str) == ("__classdict__" : Str)) = false := ⟨by decide +kernel, by decide +kernel⟩
theorem nd_value : (("value" : Str) == ("__debug__" : Str)) = false ∧ (("value" : Str) == ("__classdict__" : Str)) = false := ⟨by decide +kernel, by decide +kernel⟩
theorem nd_top : (("top" : Str) == ("__debug__" : Str)) = false ∧ (("top" : Str) == ("__classdict__" : Str)) = false := ⟨by decide +kernel, by decide +kernel⟩
theorem nd_bottom : (("bottom" : Str) == ("__debug__" : Str)) = false ∧ (("bottom" : Str) == ("__classdict__" : Str)) = false := ⟨by decide +kernel, by decide +kernel⟩
theorem nd_shared : (("shared" : Str) == ("__debug__" : Str)) = false ∧ (("shared" : Str) == ("__classdict__" : Str)) = false := ⟨by decide +kernel, by decide +kernel⟩
theorem nd_other : (("other" : Str) == ("__debug__" : Str)) = false ∧ (("other" : Str) == ("__classdict__" : Str)) = false := ⟨by decide +kernel, by decide +kernel⟩
theorem nd_n : (("n" : Str) == ("__debug__" : Str)) = false ∧ (("n" : Str) == ("__classdict__" : Str)) = false := ⟨by decide +kernel, by decide +kernel⟩
theorem nd__ : (("_" : Str) == ("__debug__" : Str)) = false ∧ (("_" : Str) == ("__classdict__" : Str)) = false := ⟨by decide +kernel, by decide +kernel⟩
theorem nd_left : (("left" : Str) == ("__debug__" : Str)) = false ∧ (("left" : Str) == ("__classdict__" : Str)) = false := ⟨by decide +kernel, by decide +kernel⟩
theorem nd_right : (("right" : Str) == ("__debug__" : Str)) = false ∧ (("right" : Str) == ("__classdict__" : Str)) = false := ⟨by decide +kernel, by decide +kernel⟩
theorem nd_low : (("low" : Str) == ("__debug__" : Str)) = false ∧ (("low" : Str) == ("__classdict__" : Str)) = false := ⟨by decide +kernel, by decide +kernel⟩
theorem nd_high : (("high" : Str) == ("__debug__" : Str)) = false ∧ (("high" : Str) == ("__classdict__" : Str)) = false := ⟨by decide +kernel, by decide +kernel⟩
theorem nd_low_top : (("low_top" : Str) == ("__debug__" : Str)) = false ∧ (("low_top" : Str) == ("__classdict__" : Str)) = false := ⟨by decide +kernel, by decide +kernel⟩
theorem nd_low_bottom : (("low_bottom" : Str) == ("__debug__" : Str)) = false ∧ (("low_bottom" : Str) == ("__classdict__" : Str)) = false := ⟨by decide +kernel, by decide +kernel⟩
theorem nd_high_top : (("high_top" : Str) == ("__debug__" : Str)) = false ∧ (("high_top" : Str) == ("__classdict__" : Str)) = false := ⟨by decide +kernel, by decide +kernel⟩
theorem nd_high_bottom : (("high_bottom" : Str) == ("__debug__" : Str)) = false ∧ (("high_bottom" : Str) == ("__classdict__" : Str)) = false := ⟨by decide +kernel, by decide +kernel⟩
theorem nd_parts : (("parts" : Str) == ("__debug__" : Str)) = false ∧ (("parts" : Str) == ("__classdict__" : Str)) = false := ⟨by decide +kernel, by decide +kernel⟩
theorem nd_part : (("part" : Str) == ("__debug__" : Str)) = false ∧ (("part" : Str) == ("__classdict__" : Str)) = false := ⟨by decide +kernel, by decide +kernel⟩
theorem nd_low_rest : (("low_rest" : Str) == ("__debug__" : Str)) = false ∧ (("low_rest" : Str) == ("__classdict__" : Str)) = false := ⟨by decide +kernel, by decide +kernel⟩
theorem nd_high_rest : (("high_rest" : Str) == ("__debug__" : Str)) = false ∧ (("high_rest" : Str) == ("__classdict__" : Str)) = false := ⟨by decide +kernel, by decide +kernel⟩
theorem nd_script : (("script" : Str) == ("__debug__" : Str)) = false ∧ (("script" : Str) == ("__classdict__" : Str)) = false := ⟨by decide +kernel, by decide +kernel⟩
theorem nd_cell : (("cell" : Str) == ("__debug__" : Str)) = false ∧ (("cell" : Str) == ("__classdict__" : Str)) = false := ⟨by decide +kernel, by decide +kernel⟩
theorem nd_pot : (("pot" : Str) == ("__debug__" : Str)) = false ∧ (("pot" : Str) == ("__classdict__" : Str)) = false := ⟨by decide +kernel, by decide +kernel⟩
theorem nd_many : (("many" : Str) == ("__debug__" : Str)) = false ∧ (("many" : Str) == ("__classdict__" : Str)) = false := ⟨by decide +kernel, by decide +kernel⟩
theorem nd_digit : (("digit" : Str) == ("__debug__" : Str)) = false ∧ (("digit" : Str) == ("__classdict__" : Str)) = false := ⟨by decide +kernel, by decide +kernel⟩
theorem nd_kind : (("kind" : Str) == ("__debug__" : Str)) = false ∧ (("kind" : Str) == ("__classdict__" : Str)) = false := ⟨by decide +kernel, by decide +kernel⟩
theorem nd_pair : (("pair" : Str) == ("__debug__" : Str)) = false ∧ (("pair" : Str) == ("__classdict__" : Str)) = false := ⟨by decide +kernel, by decide +kernel⟩
theorem nd_times : (("times" : Str) == ("__debug__" : Str)) = false ∧ (("times" : Str) == ("__classdict__" : Str)) = false := ⟨by decide +kernel, by decide +kernel⟩
theorem nd_u : (("u" : Str) == ("__debug__" : Str)) = false ∧ (("u" : Str) == ("__classdict__" : Str)) = false := ⟨by decide +kernel, by decide +kernel⟩
theorem nd_v : (("v" : Str) == ("__debug__" : Str)) = false ∧ (("v" : Str) == ("__classdict__" : Str)) = false := ⟨by decide +kernel, by decide +kernel⟩
theorem nd_k : (("k" : Str) == ("__debug__" : Str)) = false ∧ (("k" : Str) == ("__classdict__" : Str)) = false := ⟨by decide +kernel, by decide +kernel⟩
theorem nd_rest : (("rest" : Str) == ("__debug__" : Str)) = false ∧ (("rest" : Str) == ("__classdict__" : Str)) = false := ⟨by decide +kernel, by decide +kernel⟩
theorem nd_a : (("a" : Str) == ("__debug__" : Str)) = false ∧ (("a" : Str) == ("__classdict__" : Str)) = false := ⟨by decide +kernel, by decide +kernel⟩
theorem nd_b : (("b" : Str) == ("__debug__" : Str)) = false ∧ (("b" : Str) == ("__classdict__" : Str)) = false := ⟨by decide +kernel, by decide +kernel⟩
theorem nd_told : (("told" : Str) == ("__debug__" : Str)) = false ∧ (("told" : Str) == ("__classdict__" : Str)) = false := ⟨by decide +kernel, by decide +kernel⟩
theorem nd_e : (("e" : Str) == ("__debug__" : Str)) = false ∧ (("e" : Str) == ("__classdict__" : Str)) = false := ⟨by decide +kernel, by decide +kernel⟩
theorem nd_x : (("x" : Str) == ("__debug__" : Str)) = false ∧ (("x" : Str) == ("__classdict__" : Str)) = false := ⟨by decide +kernel, by decide +kernel⟩
theorem nd_zero : (("zero" : Str) == ("__debug__" : Str)) = false ∧ (("zero" : Str) == ("__classdict__" : Str)) = false := ⟨by decide +kernel, by decide +kernel⟩
theorem nd_y : (("y" : Str) == ("__debug__" : Str)) = false ∧ (("y" : Str) == ("__classdict__" : Str)) = false := ⟨by decide +kernel, by decide +kernel⟩
theorem nd_own : (("own" : Str) == ("__debug__" : Str)) = false ∧ (("own" : Str) == ("__classdict__" : Str)) = false := ⟨by decide +kernel, by decide +kernel⟩
theorem nd_sign : (("sign" : Str) == ("__debug__" : Str)) = false ∧ (("sign" : Str) == ("__classdict__" : Str)) = false := ⟨by decide +kernel, by decide +kernel⟩
theorem nd_z : (("z" : Str) == ("__debug__" : Str)) = false ∧ (("z" : Str) == ("__classdict__" : Str)) = false := ⟨by decide +kernel, by decide +kernel⟩
theorem nd_gap : (("gap" : Str) == ("__debug__" : Str)) = false ∧ (("gap" : Str) == ("__classdict__" : Str)) = false := ⟨by decide +kernel, by decide +kernel⟩
theorem nd_due : (("due" : Str) == ("__debug__" : Str)) = false ∧ (("due" : Str) == ("__classdict__" : Str)) = false := ⟨by decide +kernel, by decide +kernel⟩
theorem nd_c : (("c" : Str) == ("__debug__" : Str)) = false ∧ (("c" : Str) == ("__classdict__" : Str)) = false := ⟨by decide +kernel, by decide +kernel⟩
theorem nd_size : (("size" : Str) == ("__debug__" : Str)) = false ∧ (("size" : Str) == ("__classdict__" : Str)) = false := ⟨by decide +kernel, by decide +kernel⟩
theorem nd_last : (("last" : Str) == ("__debug__" : Str)) = false ∧ (("last" : Str) == ("__classdict__" : Str)) = false := ⟨by decide +kernel, by decide +kernel⟩
theorem nd_first : (("first" : Str) == ("__debug__" : Str)) = false ∧ (("first" : Str) == ("__classdict__" : Str)) = false := ⟨by decide +kernel, by decide +kernel⟩
theorem nd_second : (("second" : Str) == ("__debug__" : Str)) = false ∧ (("second" : Str) == ("__classdict__" : Str)) = false := ⟨by decide +kernel, by decide +kernel⟩
theorem nd_third : (("third" : Str) == ("__debug__" : Str)) = false ∧ (("third" : Str) == ("__classdict__" : Str)) = false := ⟨by decide +kernel, by decide +kernel⟩
theorem nd_long : (("long" : Str) == ("__debug__" : Str)) = false ∧ (("long" : Str) == ("__classdict__" : Str)) = false := ⟨by decide +kernel, by decide +kernel⟩
theorem nd_BadNumber : (("BadNumber" : Str) == ("__debug__" : Str)) = false ∧ (("BadNumber" : Str) == ("__classdict__" : Str)) = false := ⟨by decide +kernel, by decide +kernel⟩
theorem nd_CarryError : (("CarryError" : Str) == ("__debug__" : Str)) = false ∧ (("CarryError" : Str) == ("__classdict__" : Str)) = false := ⟨by decide +kernel, by decide +kernel⟩
theorem nd_Crossed : (("Crossed" : Str) == ("__debug__" : Str)) = false ∧ (("Crossed" : Str) == ("__classdict__" : Str)) = false := ⟨by decide +kernel, by decide +kernel⟩
theorem nd_OutOfBounds : (("OutOfBounds" : Str) == ("__debug__" : Str)) = false ∧ (("OutOfBounds" : Str) == ("__classdict__" : Str)) = false := ⟨by decide +kernel, by decide +kernel⟩
theorem nd_ZeroBottom : (("ZeroBottom" : Str) == ("__debug__" : Str)) = false ∧ (("ZeroBottom" : Str) == ("__classdict__" : Str)) = false := ⟨by decide +kernel, by decide +kernel⟩
abbrev N_OutOfBounds___init__ : List Str := ["self", "value"]
theorem sc_OutOfBounds___init__ : FnScope N_OutOfBounds___init__ ["self", "value"] (defScope s_OutOfBounds___init__) := ⟨rfl, rfl, rfl, by decide +kernel, rfl, by decide +kernel, by decide +kernel⟩
abbrev N_Ratio___init__ : List Str := ["self", "top", "bottom", "shared"]
theorem sc_Ratio___init__ : FnScope N_Ratio___init__ ["self", "top", "bottom"] (defScope s_Ratio___init__) := ⟨rfl, rfl, rfl, by decide +kernel, rfl, by decide +kernel, by decide +kernel⟩
abbrev N_Ratio___add__ : List Str := ["self", "other"]
theorem sc_Ratio___add__ : FnScope N_Ratio___add__ ["self", "other"] (defScope s_Ratio___add__) := ⟨rfl, rfl, rfl, by decide +kernel, rfl, by decide +kernel, by decide +kernel⟩
abbrev N_Ratio___sub__ : List Str := ["self", "other"]
theorem sc_Ratio___sub__ : FnScope N_Ratio___sub__ ["self", "other"] (defScope s_Ratio___sub__) := ⟨rfl, rfl, rfl, by decide +kernel, rfl, by decide +kernel, by decide +kernel⟩
abbrev N_Ratio___mul__ : List Str := ["self", "other"]
theorem sc_Ratio___mul__ : FnScope N_Ratio___mul__ ["self", "other"] (defScope s_Ratio___mul__) := ⟨rfl, rfl, rfl, by decide +kernel, rfl, by decide +kernel, by decide +kernel⟩
abbrev N_Ratio___neg__ : List Str := ["self"]
theorem sc_Ratio___neg__ : FnScope N_Ratio___neg__ ["self"] (defScope s_Ratio___neg__) := ⟨rfl, rfl, rfl, by decide +kernel, rfl, by decide +kernel, by decide +kernel⟩
abbrev N_Ratio___abs__ : List Str := ["self"]
theorem sc_Ratio___abs__ : FnScope N_Ratio___abs__ ["self"] (defScope s_Ratio___abs__) := ⟨rfl, rfl, rfl, by decide +kernel, rfl, by decide +kernel, by decide +kernel⟩
abbrev N_Ratio___pow__ : List Str := ["self", "other"]
theorem sc_Ratio___pow__ : FnScope N_Ratio___pow__ ["self", "other"] (defScope s_Ratio___pow__) := ⟨rfl, rfl, rfl, by decide +kernel, rfl, by decide +kernel, by decide +kernel⟩
abbrev N_Ratio_raised : List Str := ["self", "n", "top", "bottom", "_"]
theorem sc_Ratio_raised : FnScope N_Ratio_raised ["self", "n"] (defScope s_Ratio_raised) := ⟨rfl, rfl, rfl, by decide +kernel, rfl, by decide +kernel, by decide +kernel⟩
abbrev N_Ratio_divided : List Str := ["self", "other"]
theorem sc_Ratio_divided : FnScope N_Ratio_divided ["self", "other"] (defScope s_Ratio_divided) := ⟨rfl, rfl, rfl, by decide +kernel, rfl, by decide +kernel, by decide +kernel⟩
abbrev N_Ratio_compare : List Str := ["self", "other", "left", "right"]
theorem sc_Ratio_compare : FnScope N_Ratio_compare ["self", "other"] (defScope s_Ratio_compare) := ⟨rfl, rfl, rfl, by decide +kernel, rfl, by decide +kernel, by decide +kernel⟩
abbrev N_Ratio_sign : List Str := ["self"]
theorem sc_Ratio_sign : FnScope N_Ratio_sign ["self"] (defScope s_Ratio_sign) := ⟨rfl, rfl, rfl, by decide +kernel, rfl, by decide +kernel, by decide +kernel⟩
abbrev N_Ratio_rounded_down : List Str := ["self"]
theorem sc_Ratio_rounded_down : FnScope N_Ratio_rounded_down ["self"] (defScope s_Ratio_rounded_down) := ⟨rfl, rfl, rfl, by decide +kernel, rfl, by decide +kernel, by decide +kernel⟩
abbrev N_Ratio_rounded_up : List Str := ["self"]
theorem sc_Ratio_rounded_up : FnScope N_Ratio_rounded_up ["self"] (defScope s_Ratio_rounded_up) := ⟨rfl, rfl, rfl, by decide +kernel, rfl, by decide +kernel, by decide +kernel⟩
abbrev N_simplest : List Str := ["low", "high"]
theorem sc_simplest : FnScope N_simplest ["low", "high"] (defScope s_simplest) := ⟨rfl, rfl, rfl, by decide +kernel, rfl, by decide +kernel, by decide +kernel⟩
abbrev N__simplest_above_zero : List Str := ["low", "high", "low_top", "low_bottom", "high_top", "high_bottom", "parts", "part", "low_rest", "high_rest", "top", "bottom"]
theorem sc__simplest_above_zero : FnScope N__simplest_above_zero ["low", "high"] (defScope s__simplest_above_zero) := ⟨rfl, rfl, rfl, by decide +kernel, rfl, by decide +kernel, by decide +kernel⟩
abbrev N__law_start : List Str := ["script", "cell"]
theorem sc__law_start : FnScope N__law_start ["script"] (defScope s__law_start) := ⟨rfl, rfl, rfl, by decide +kernel, rfl, by decide +kernel, by decide +kernel⟩
abbrev N__law_digit : List Str := ["pot", "many", "digit"]
theorem sc__law_digit : FnScope N__law_digit ["pot", "many"] (defScope s__law_digit) := ⟨rfl, rfl, rfl, by decide +kernel, rfl, by decide +kernel, by decide +kernel⟩
abbrev N__law_fraction : List Str := ["pot", "kind", "top"]
theorem sc__law_fraction : FnScope N__law_fraction ["pot"] (defScope s__law_fraction) := ⟨rfl, rfl, rfl, by decide +kernel, rfl, by decide +kernel, by decide +kernel⟩
abbrev N__law_handed : List Str := ["pot", "pair", "times"]
theorem sc__law_handed : FnScope N__law_handed ["pot", "pair"] (defScope s__law_handed) := ⟨rfl, rfl, rfl, by decide +kernel, rfl, by decide +kernel, by decide +kernel⟩
abbrev N__law_lowest : List Str := ["top", "bottom", "u", "v", "k", "rest"]
theorem sc__law_lowest : FnScope N__law_lowest ["top", "bottom"] (defScope s__law_lowest) := ⟨rfl, rfl, rfl, by decide +kernel, rfl, by decide +kernel, by decide +kernel⟩
abbrev N__law_plus : List Str := ["a", "b"]
theorem sc__law_plus : FnScope N__law_plus ["a", "b"] (defScope s__law_plus) := ⟨rfl, rfl, rfl, by decide +kernel, rfl, by decide +kernel, by decide +kernel⟩
abbrev N__law_times : List Str := ["a", "b"]
theorem sc__law_times : FnScope N__law_times ["a", "b"] (defScope s__law_times) := ⟨rfl, rfl, rfl, by decide +kernel, rfl, by decide +kernel, by decide +kernel⟩
abbrev N__law_is : List Str := ["told", "pair"]
theorem sc__law_is : FnScope N__law_is ["told", "pair"] (defScope s__law_is) := ⟨rfl, rfl, rfl, by decide +kernel, rfl, by decide +kernel, by decide +kernel⟩
abbrev N__law_no_bottom : List Str := ["top", "e"]
theorem sc__law_no_bottom : FnScope N__law_no_bottom ["top"] (defScope s__law_no_bottom) := ⟨rfl, rfl, rfl, by decide +kernel, rfl, by decide +kernel, by decide +kernel⟩
abbrev N__law_no_quotient : List Str := ["x", "zero", "e"]
theorem sc__law_no_quotient : FnScope N__law_no_quotient ["x", "zero"] (defScope s__law_no_quotient) := ⟨rfl, rfl, rfl, by decide +kernel, rfl, by decide +kernel, by decide +kernel⟩
abbrev N__law_no_exponent : List Str := ["x", "many", "e"]
theorem sc__law_no_exponent : FnScope N__law_no_exponent ["x", "many"] (defScope s__law_no_exponent) := ⟨rfl, rfl, rfl, by decide +kernel, rfl, by decide +kernel, by decide +kernel⟩
abbrev N__law_four : List Str := ["x", "y", "a", "b"]
theorem sc__law_four : FnScope N__law_four ["x", "y", "a", "b"] (defScope s__law_four) := ⟨rfl, rfl, rfl, by decide +kernel, rfl, by decide +kernel, by decide +kernel⟩
abbrev N__law_small_powers : List Str := ["x", "a", "told", "own", "k"]
theorem sc__law_small_powers : FnScope N__law_small_powers ["x", "a"] (defScope s__law_small_powers) := ⟨rfl, rfl, rfl, by decide +kernel, rfl, by decide +kernel, by decide +kernel⟩
abbrev N__law_drawn_power : List Str := ["x", "a", "many", "own", "k"]
theorem sc__law_drawn_power : FnScope N__law_drawn_power ["x", "a", "many"] (defScope s__law_drawn_power) := ⟨rfl, rfl, rfl, by decide +kernel, rfl, by decide +kernel, by decide +kernel⟩
abbrev N__law_all_powers : List Str := ["x", "told"]
theorem sc__law_all_powers : FnScope N__law_all_powers ["x"] (defScope s__law_all_powers) := ⟨rfl, rfl, rfl, by decide +kernel, rfl, by decide +kernel, by decide +kernel⟩
abbrev N__law_great_powers : List Str := ["x", "a", "many", "own", "k", "told"]
theorem sc__law_great_powers : FnScope N__law_great_powers ["x", "a", "many"] (defScope s__law_great_powers) := ⟨rfl, rfl, rfl, by decide +kernel, rfl, by decide +kernel, by decide +kernel⟩
abbrev N__law_alone : List Str := ["x", "a"]
theorem sc__law_alone : FnScope N__law_alone ["x", "a"] (defScope s__law_alone) := ⟨rfl, rfl, rfl, by decide +kernel, rfl, by decide +kernel, by decide +kernel⟩
abbrev N__law_long_four : List Str := ["x", "y", "u", "v", "sign"]
theorem sc__law_long_four : FnScope N__law_long_four ["x", "y", "u", "v", "sign"] (defScope s__law_long_four) := ⟨rfl, rfl, rfl, by decide +kernel, rfl, by decide +kernel, by decide +kernel⟩
abbrev N__law_long_order : List Str := ["x", "y", "z", "u", "v", "sign", "gap", "due"]
theorem sc__law_long_order : FnScope N__law_long_order ["x", "y", "z", "u", "v", "sign"] (defScope s__law_long_order) := ⟨rfl, rfl, rfl, by decide +kernel, rfl, by decide +kernel, by decide +kernel⟩
abbrev N__law_long : List Str := ["pot", "c", "size", "u", "v", "k", "last", "sign", "first", "second", "x", "y", "z"]
theorem sc__law_long : FnScope N__law_long ["pot", "c"] (defScope s__law_long) := ⟨rfl, rfl, rfl, by decide +kernel, rfl, by decide +kernel, by decide +kernel⟩
abbrev N_law : List Str := ["script", "pot", "a", "b", "c", "many", "first", "second", "third", "low", "high", "long", "x", "y", "z", "zero"]
theorem sc_law : FnScope N_law ["script"] (defScope s_law) := ⟨rfl, rfl, rfl, by decide +kernel, rfl, by decide +kernel, by decide +kernel⟩

theorem bt_abs : bootBuiltins "abs" = some (.builtin "abs") := by decide +kernel
theorem bt_len : bootBuiltins "len" = some (.builtin "len") := by decide +kernel
theorem bt_min : bootBuiltins "min" = some (.builtin "min") := by decide +kernel
theorem bt_max : bootBuiltins "max" = some (.builtin "max") := by decide +kernel
theorem bt_int : bootBuiltins "int" = some (.type "int") := by decide +kernel
theorem bt_bool : bootBuiltins "bool" = some (.type "bool") := by decide +kernel
theorem bt_str : bootBuiltins "str" = some (.type "str") := by decide +kernel
theorem bt_ValueError : bootBuiltins "ValueError" = some (.type "ValueError") := by decide +kernel
theorem bt_isinstance : bootBuiltins "isinstance" = some (.builtin "isinstance") := by decide +kernel
theorem bt_all : bootBuiltins "all" = some (.builtin "all") := by decide +kernel
theorem bt_any : bootBuiltins "any" = some (.builtin "any") := by decide +kernel

structure Txt (G : Gx) (C_Ratio C_ZeroBottom C_OutOfBounds C_CarryError : Addr) : Prop where
  n_abs : G.mg "abs" = none
  n_len : G.mg "len" = none
  n_int : G.mg "int" = none
  n_bool : G.mg "bool" = none
  n_range : G.mg "range" = none
  n_isinstance : G.mg "isinstance" = none
  n_ValueError : G.mg "ValueError" = none
  mg_gcd : G.mg "gcd" = some (.builtin "math.gcd")
  gc_MOST_EXPONENT : ∃ u, G.mg "MOST_EXPONENT" = some u ∧ RelV (.int 64) u
  mg_Ratio : G.mg "Ratio" = some (.ref C_Ratio)
  mg_ZeroBottom : G.mg "ZeroBottom" = some (.ref C_ZeroBottom)
  mg_OutOfBounds : G.mg "OutOfBounds" = some (.ref C_OutOfBounds)
  mg_CarryError : G.mg "CarryError" = some (.ref C_CarryError)
  R_Ratio : RatC G.K C_Ratio
  x0_ZeroBottom : Exc0 G "ZeroBottom" C_ZeroBottom
  XC_ZeroBottom : ExK G.K C_ZeroBottom
  x_OutOfBounds : Exc G "OutOfBounds" C_OutOfBounds ["value"]
  XC_OutOfBounds : ExK G.K C_OutOfBounds
  no_OutOfBounds_value : PySem.W.findIn G.K (.ref C_OutOfBounds) "value" = some none
  is_Ratio_Ratio : PySem.W.kitOne G.K (.ref C_Ratio) (.ref C_Ratio) = some true
  is_ZeroBottom_ZeroBottom : PySem.W.kitOne G.K (.ref C_ZeroBottom) (.ref C_ZeroBottom) = some true
  is_ZeroBottom_OutOfBounds : PySem.W.kitOne G.K (.ref C_ZeroBottom) (.ref C_OutOfBounds) = some false
  is_OutOfBounds_OutOfBounds : PySem.W.kitOne G.K (.ref C_OutOfBounds) (.ref C_OutOfBounds) = some true
  is_OutOfBounds_ZeroBottom : PySem.W.kitOne G.K (.ref C_OutOfBounds) (.ref C_ZeroBottom) = some false
  isT_ZeroBottom_ValueError : PySem.W.kitOne G.K (.ref C_ZeroBottom) (.type "ValueError") = some true
  isT_OutOfBounds_ValueError : PySem.W.kitOne G.K (.ref C_OutOfBounds) (.type "ValueError") = some true
  ex_ZeroBottom_CarryError : PySem.W.exmOne G.K (.ref C_ZeroBottom) (.ref C_CarryError) = some true
  ex_OutOfBounds_CarryError : PySem.W.exmOne G.K (.ref C_OutOfBounds) (.ref C_CarryError) = some true

/-! one step, by the goal's head -/

/-! Ratio and Span by numbers: their promises used -/
local macro_rules | `(tactic| walk_at "fld_1") => `(tactic| (with_reducible refine we_fldF ?_))
local macro_rules | `(tactic| walk_at "useWe_1") => `(tactic| first | (with_reducible refine we_mt ?_) | (with_reducible refine we_ratQ ?_) | (with_reducible refine we_ratQ1 ?_) | (with_reducible refine we_spn ?_) | fail)
local macro_rules | `(tactic| walk_at "sWe_1") => `(tactic| first
  | ((with_reducible refine we_var (d := ?d) ?hv ?hk); case hv => rfl)
  | (with_reducible first
    | refine we_cint ?_ | refine we_2 ?_ | refine we_cl0 ?_ | refine we_tup ?_ | refine we_1 ?_ | refine we_c2 ?_ | refine we_cbl ?_ | refine we_cnon ?_ | refine we_cty ?_ | refine we_cref ?_
    | refine we_op ?_ | refine we_andV ?_ | refine we_orV ?_ | refine we_notV ?_ | refine we_3 ?_ | refine we_ifx ?_ | refine we_cstr ?_ | refine we_clH ?_)
  | walk_at "fld_1"
  | walk_at "useWe_1")
local macro_rules | `(tactic| walk_at "useW2_1") => `(tactic| first
  | (with_reducible refine w2_addO (by assumption) (by decide) .fixed .fixed ?_) | (with_reducible refine w2_subO (by assumption) (by decide) .fixed .fixed ?_) | (with_reducible refine w2_mulO (by assumption) (by decide) .fixed .fixed ?_) | (with_reducible refine w1_negO (by assumption) (by decide) .fixed ?_) | (with_reducible refine w2_inO (by assumption) (by decide) .fixed ?_) | fail)
local macro_rules | `(tactic| walk_at "sW2_1") => `(tactic| first
  | (with_reducible first
    | refine w2_add ?_ | refine w2_sub ?_ | refine w2_mul ⟨?_, ?_⟩ | refine w2_fdiv ⟨?_, ?_⟩ | refine w2_mod ⟨?_, ?_⟩ | refine w2_pow ⟨?_, ?_⟩ | refine w2_eqI ?_ | refine w2_neI ?_ | refine w2_lt ?_ | refine w2_le ?_ | refine w2_gt ?_ | refine w2_ge ?_ | refine w2_eqFI ?_ | refine w2_neFI ?_)
  | ((with_reducible refine w2_ixT (d := ?d) ⟨?hv, ?hk⟩); case hv => rfl)
  | ((with_reducible refine w2_ixL (d := ?d) ⟨?hv, ?hk⟩); case hv => rfl)
  | ((with_reducible refine w2_ixM (d := ?d) .head ⟨?hv, ?hk⟩); case hv => rfl)
  | (with_reducible first
    | refine w2_eqIH ?_ | refine w2_neIH ?_ | refine w2_mulH ⟨?_, ?_⟩ | refine w2_addH ?_ | refine w2_subH ?_ | refine w2_isN ?_ | refine w2_notN ?_ | refine w2_isB ?_ | refine w2_notB ?_)
  | walk_at "useW2_1")
local macro_rules | `(tactic| walk_at "sWa_1") => `(tactic| with_reducible first | refine wa_nil ?_ | refine wa_cons ?_)
local macro_rules | `(tactic| walk_at "useWs_1") => `(tactic| first | (with_reducible refine ws_rs0 ?_) | (with_reducible refine ws_rs ?_) | fail)
local macro_rules | `(tactic| walk_at "sWs_1") => `(tactic| first
  | (with_reducible first | refine ws_seq ?_ | refine ws_ret ?_ | refine ws_asg ?_ | refine ws_next ?_ | refine ws_drop ?_ | refine ws_par ?_ | refine ws_par3 ?_ | refine ws_fldN ?_ | refine ws_brk ?_ | refine ws_cont ?_)
  | walk_at "useWs_1")
local macro_rules | `(tactic| walk_at "sWt_1") => `(tactic| with_reducible first | refine wt_test ?_ | refine wt_tr ?_ | refine wt_and ?_ | refine wt_or ?_ | refine wt_not ?_)
local macro_rules | `(tactic| walk_at "useWc_1") => `(tactic| fail)
local macro_rules | `(tactic| walk_at "sWc_1") => `(tactic| first
  | (with_reducible first | refine wc_int ?_ | refine wc_abs ?_ | refine wc_min ?_ | refine wc_gcd ?_ | refine wc_isiT .int kit_ii ?_ | refine wc_isiT .int kit_ib ?_ | refine wc_len .lst ?_ | refine wc_len .tup ?_ | refine wc_strI ?_ ?_)
  | walk_at "useWc_1")
local macro_rules | `(tactic| walk_at "sWg_1") => `(tactic| with_reducible first | refine wg_name ?_ | refine wg_subM ?_ | refine wg_tup rfl ?_)
local macro_rules | `(tactic| walk_at "sW1_1") => `(tactic| first | (with_reducible refine w1_neg ?_) | walk_at "useW2_1")
local macro_rules | `(tactic| walk_at "sWgs_1") => `(tactic| with_reducible first | refine wgs_cons ?_ | refine wgs_nil ?_)
local macro_rules | `(tactic| walk_at "use_1") => `(tactic| fail)
local macro_rules | `(tactic| walk_at "sX_1") => `(tactic| first
  | (with_reducible refine ⟨_, rfl, ?_⟩)
  | (with_reducible refine fld_top (by assumption) ?_) | (with_reducible refine fld_bottom (by assumption) ?_)
  | (with_reducible refine ⟨_, .bl, ?_⟩)
  | ((with_reducible refine ⟨?h, ?_⟩); case h => rfl)
  | (with_reducible refine ⟨_, _, rfl, ?_⟩)
  | (with_reducible refine ⟨_, _, _, rfl, ?_⟩)
  | walk_at "use_1"
  | (with_reducible refine setN_top (by assumption) ?_) | (with_reducible refine setN_bottom (by assumption) ?_)
  | ((with_reducible refine ⟨_, _, _, ?j, _, rfl, rfl, .head, ?h, .head, ?_⟩); case h => rfl)
  | fail)
local macro_rules | `(tactic| walk_at "st_1") => `(tactic| first
  | ((with_reducible show We _ _ _ _ _ _); walk_at "sWe_1")
  | ((with_reducible show W2 _ _ _ _ _ _ _ _); walk_at "sW2_1")
  | ((with_reducible show Wa _ _ _ _ _ _); walk_at "sWa_1")
  | ((with_reducible show Ws _ _ _ _ _ _); walk_at "sWs_1")
  | ((with_reducible show Wt _ _ _ _ _ _); walk_at "sWt_1")
  | ((with_reducible show Wc _ _ _ _ _ _ _); walk_at "sWc_1")
  | ((with_reducible show Wg _ _ _ _ _ _ _); walk_at "sWg_1")
  | ((with_reducible show W1 _ _ _ _ _ _ _); walk_at "sW1_1")
  | ((with_reducible show Wgs _ _ _ _ _ _ _); walk_at "sWgs_1")
  | walk_at "sX_1" | fail)
local macro_rules | `(tactic| walk_at "wif_1") => `(tactic| (with_reducible refine ws_if ?_))
local macro_rules | `(tactic| walk_at "br_1") => `(tactic| ((with_reducible refine ⟨fun hb => ?_, fun hb => ?_⟩) <;> (try simp only [decide_eq_true_eq, decide_eq_false_iff_not, Bool.not_eq_true', Bool.not_eq_false', Bool.and_eq_true, Bool.or_eq_true, reduceCtorEq, List.length_map, Bool.not_true, Bool.not_false, DL.isNon, not_true_eq_false, not_false_eq_true, Classical.not_not, List.all_cons, List.all_nil, id_eq, Bool.and_self, Bool.true_and, decide_true, decide_false] at hb)))
local macro_rules | `(tactic| walk_at "go_1") => `(tactic| repeat' (first | walk_at "st_1" | walk_at "wif_1" | walk_at "br_1" | fail))

section
variable {G : Gx} {C_Ratio C_ZeroBottom C_OutOfBounds C_CarryError : Addr}
theorem ok_ginit (T : Txt G C_Ratio C_ZeroBottom C_OutOfBounds C_CarryError) {f : Addr} {fd : FuncData} {dvs : List V} (F : FunW G.K "__init__" "Ratio.__init__" s_Ratio___init__ dvs f fd) {ds : List Value} {dd : List D} (b : L2.Binds G.K fd ["self", "top", "bottom"] ds) (d : L2.Vals (dd.map ofD) ds) (cs : dd.all isC = true) : Fnx G 1 f 3 (S_ginit C_Ratio C_ZeroBottom) dd := by
  refine fnx_ofD F sc_Ratio___init__ rfl b d cs (fun cdv A outer s H FF hr tk => ⟨_, (pss_cons (ps_if (pt_cm (os_eqF hr tk) (pe_var (i := 2) rfl (Or.inl rfl) nd_bottom.1 nd_bottom.2) pe_int (nomark _)) (pss_one (ps_rs0 T.x0_ZeroBottom rfl tk rfl)) pss_nil) (pss_cons (ps_set (i := 3) sc_Ratio___init__.nd rfl (Or.inl rfl) (pe_cf cs_gcd rfl T.mg_gcd (pa_cons (pe_var (i := 1) rfl (Or.inl rfl) nd_top.1 nd_top.2) (pa_cons (pe_var (i := 2) rfl (Or.inl rfl) nd_bottom.1 nd_bottom.2) pa_nil)))) (pss_cons (ps_if (pt_cm os_lt (pe_var (i := 2) rfl (Or.inl rfl) nd_bottom.1 nd_bottom.2) pe_int (nomark _)) (pss_one (ps_set (i := 3) sc_Ratio___init__.nd rfl (Or.inl rfl) (pe_una (us_neg hr tk) (pe_var (i := 3) rfl (Or.inl rfl) nd_shared.1 nd_shared.2)))) pss_nil) (pss_cons (ps_fld (pe_var (i := 0) rfl (Or.inl rfl) nd_self.1 nd_self.2) (pe_bin os_fdiv (pe_var (i := 1) rfl (Or.inl rfl) nd_top.1 nd_top.2) (pe_var (i := 3) rfl (Or.inl rfl) nd_shared.1 nd_shared.2)) rfl) (pss_one (ps_fld (pe_var (i := 0) rfl (Or.inl rfl) nd_self.1 nd_self.2) (pe_bin os_fdiv (pe_var (i := 2) rfl (Or.inl rfl) nd_bottom.1 nd_bottom.2) (pe_var (i := 3) rfl (Or.inl rfl) nd_shared.1 nd_shared.2)) rfl)))))), ?_⟩)
  rintro ds m K E - ⟨x, m0, t, b, rfl, rfl, k⟩
  show Ws _ _ _ [some (.ref x), some (.int t), some (.int b), none] _ _
  try dsimp only [cx_G, cx_K]
  have R := T.R_Ratio
  rcases k with ⟨rfl, k⟩ | ⟨hb0, ok, k⟩
  · walk_at "go_1"
    · exact k
    all_goals exact absurd rfl ‹¬ _›
  · have gp := gc_pos (t := t) hb0
    have gn : gc t b ≠ 0 := by omega
    have fin1 : ¬ b < 0 → t.fdiv (gc t b) = rT t b ∧ b.fdiv (gc t b) = rB t b := fun h => by
      unfold rT rB
      rw [if_neg h, if_neg h, fdiv_pos gp, fdiv_pos gp]
      exact ⟨rfl, rfl⟩
    have fin2 : b < 0 → t.fdiv (-gc t b) = rT t b ∧ b.fdiv (-gc t b) = rB t b := fun h => by
      unfold rT rB
      rw [if_pos h, if_pos h, fdiv_neg' gp (gc_dvd1 t b), fdiv_neg' gp (gc_dvd2 t b)]
      exact ⟨rfl, rfl⟩
    have k1 : b < 0 → K .non ((x, .ins C_Ratio ["top", "bottom"] [.int (t.fdiv (-((t.natAbs.gcd b.natAbs : Nat) : Int))), .int (b.fdiv (-((t.natAbs.gcd b.natAbs : Nat) : Int)))]) :: m0) := fun h => by
      have q := k
      rw [← (fin2 h).1, ← (fin2 h).2] at q
      exact q
    have k2 : ¬ b < 0 → K .non ((x, .ins C_Ratio ["top", "bottom"] [.int (t.fdiv ((t.natAbs.gcd b.natAbs : Nat) : Int)), .int (b.fdiv ((t.natAbs.gcd b.natAbs : Nat) : Int))]) :: m0) := fun h => by
      have q := k
      rw [← (fin1 h).1, ← (fin1 h).2] at q
      exact q
    walk_at "go_1"
    all_goals first | exact absurd ‹b = 0› hb0 | exact ok.1.neg | exact ok.2.neg | exact ok.1 | exact ok.2 | exact k1 ‹_› | exact k2 ‹_›
local macro_rules | `(tactic| walk_at "fld_2") => `(tactic| (with_reducible refine we_fldF ?_))
local macro_rules | `(tactic| walk_at "useWe_2") => `(tactic| first | (with_reducible refine we_mt ?_) | (with_reducible refine we_ratG ?_) | (with_reducible refine we_ratG1 ?_) | fail)
local macro_rules | `(tactic| walk_at "sWe_2") => `(tactic| first
  | ((with_reducible refine we_var (d := ?d) ?hv ?hk); case hv => rfl)
  | (with_reducible first
    | refine we_cint ?_ | refine we_2 ?_ | refine we_cl0 ?_ | refine we_tup ?_ | refine we_1 ?_ | refine we_c2 ?_ | refine we_cbl ?_ | refine we_cnon ?_ | refine we_cty ?_ | refine we_cref ?_
    | refine we_op ?_ | refine we_andV ?_ | refine we_orV ?_ | refine we_notV ?_ | refine we_3 ?_ | refine we_ifx ?_ | refine we_cstr ?_ | refine we_clH ?_)
  | walk_at "fld_2"
  | walk_at "useWe_2")
local macro_rules | `(tactic| walk_at "useW2_2") => `(tactic| first
  | (with_reducible refine w2_addO (by assumption) (by decide) .fixed .fixed ?_) | (with_reducible refine w2_subO (by assumption) (by decide) .fixed .fixed ?_) | (with_reducible refine w2_mulO (by assumption) (by decide) .fixed .fixed ?_) | (with_reducible refine w1_negO (by assumption) (by decide) .fixed ?_) | (with_reducible refine w2_inO (by assumption) (by decide) .fixed ?_) | fail)
local macro_rules | `(tactic| walk_at "sW2_2") => `(tactic| first
  | (with_reducible first
    | refine w2_add ?_ | refine w2_sub ?_ | refine w2_mul ⟨?_, ?_⟩ | refine w2_fdiv ⟨?_, ?_⟩ | refine w2_mod ⟨?_, ?_⟩ | refine w2_pow ⟨?_, ?_⟩ | refine w2_eqI ?_ | refine w2_neI ?_ | refine w2_lt ?_ | refine w2_le ?_ | refine w2_gt ?_ | refine w2_ge ?_ | refine w2_eqFI ?_ | refine w2_neFI ?_)
  | ((with_reducible refine w2_ixT (d := ?d) ⟨?hv, ?hk⟩); case hv => rfl)
  | ((with_reducible refine w2_ixL (d := ?d) ⟨?hv, ?hk⟩); case hv => rfl)
  | ((with_reducible refine w2_ixM (d := ?d) .head ⟨?hv, ?hk⟩); case hv => rfl)
  | (with_reducible first
    | refine w2_eqIH ?_ | refine w2_neIH ?_ | refine w2_mulH ⟨?_, ?_⟩ | refine w2_addH ?_ | refine w2_subH ?_ | refine w2_isN ?_ | refine w2_notN ?_ | refine w2_isB ?_ | refine w2_notB ?_)
  | walk_at "useW2_2")
local macro_rules | `(tactic| walk_at "sWa_2") => `(tactic| with_reducible first | refine wa_nil ?_ | refine wa_cons ?_)
local macro_rules | `(tactic| walk_at "useWs_2") => `(tactic| first | (with_reducible refine ws_rs0 ?_) | (with_reducible refine ws_rs ?_) | fail)
local macro_rules | `(tactic| walk_at "sWs_2") => `(tactic| first
  | (with_reducible first | refine ws_seq ?_ | refine ws_ret ?_ | refine ws_asg ?_ | refine ws_next ?_ | refine ws_drop ?_ | refine ws_par ?_ | refine ws_par3 ?_ | refine ws_fldN ?_ | refine ws_brk ?_ | refine ws_cont ?_)
  | walk_at "useWs_2")
local macro_rules | `(tactic| walk_at "sWt_2") => `(tactic| with_reducible first | refine wt_test ?_ | refine wt_tr ?_ | refine wt_and ?_ | refine wt_or ?_ | refine wt_not ?_)
local macro_rules | `(tactic| walk_at "useWc_2") => `(tactic| first | (with_reducible refine wc_absI ?_) | fail)
local macro_rules | `(tactic| walk_at "sWc_2") => `(tactic| first
  | (with_reducible first | refine wc_int ?_ | refine wc_abs ?_ | refine wc_min ?_ | refine wc_gcd ?_ | refine wc_isiT .int kit_ii ?_ | refine wc_isiT .int kit_ib ?_ | refine wc_len .lst ?_ | refine wc_len .tup ?_ | refine wc_strI ?_ ?_)
  | walk_at "useWc_2")
local macro_rules | `(tactic| walk_at "sWg_2") => `(tactic| with_reducible first | refine wg_name ?_ | refine wg_subM ?_ | refine wg_tup rfl ?_)
local macro_rules | `(tactic| walk_at "sW1_2") => `(tactic| first | (with_reducible refine w1_neg ?_) | walk_at "useW2_2")
local macro_rules | `(tactic| walk_at "sWgs_2") => `(tactic| with_reducible first | refine wgs_cons ?_ | refine wgs_nil ?_)
local macro_rules | `(tactic| walk_at "use_2") => `(tactic| first | (with_reducible refine RatG.mk ?_ ?_ ?_) | fail)
local macro_rules | `(tactic| walk_at "sX_2") => `(tactic| first
  | (with_reducible refine ⟨_, rfl, ?_⟩)
  | (with_reducible refine fld_top (by assumption) ?_) | (with_reducible refine fld_bottom (by assumption) ?_)
  | (with_reducible refine ⟨_, .bl, ?_⟩)
  | ((with_reducible refine ⟨?h, ?_⟩); case h => rfl)
  | (with_reducible refine ⟨_, _, rfl, ?_⟩)
  | (with_reducible refine ⟨_, _, _, rfl, ?_⟩)
  | walk_at "use_2"
  | (with_reducible refine setN_top (by assumption) ?_) | (with_reducible refine setN_bottom (by assumption) ?_)
  | ((with_reducible refine ⟨_, _, _, ?j, _, rfl, rfl, .head, ?h, .head, ?_⟩); case h => rfl)
  | fail)
local macro_rules | `(tactic| walk_at "st_2") => `(tactic| first
  | ((with_reducible show We _ _ _ _ _ _); walk_at "sWe_2")
  | ((with_reducible show W2 _ _ _ _ _ _ _ _); walk_at "sW2_2")
  | ((with_reducible show Wa _ _ _ _ _ _); walk_at "sWa_2")
  | ((with_reducible show Ws _ _ _ _ _ _); walk_at "sWs_2")
  | ((with_reducible show Wt _ _ _ _ _ _); walk_at "sWt_2")
  | ((with_reducible show Wc _ _ _ _ _ _ _); walk_at "sWc_2")
  | ((with_reducible show Wg _ _ _ _ _ _ _); walk_at "sWg_2")
  | ((with_reducible show W1 _ _ _ _ _ _ _); walk_at "sW1_2")
  | ((with_reducible show Wgs _ _ _ _ _ _ _); walk_at "sWgs_2")
  | walk_at "sX_2" | fail)
local macro_rules | `(tactic| walk_at "wif_2") => `(tactic| (with_reducible refine ws_if ?_))
local macro_rules | `(tactic| walk_at "br_2") => `(tactic| ((with_reducible refine ⟨fun hb => ?_, fun hb => ?_⟩) <;> (try simp only [decide_eq_true_eq, decide_eq_false_iff_not, Bool.not_eq_true', Bool.not_eq_false', Bool.and_eq_true, Bool.or_eq_true, reduceCtorEq, List.length_map, Bool.not_true, Bool.not_false, DL.isNon, not_true_eq_false, not_false_eq_true, Classical.not_not, List.all_cons, List.all_nil, id_eq, Bool.and_self, Bool.true_and, decide_true, decide_false] at hb)))
local macro_rules | `(tactic| walk_at "go_2") => `(tactic| repeat' (first | walk_at "st_2" | walk_at "wif_2" | walk_at "br_2" | fail))
theorem ok_gadd (T : Txt G C_Ratio C_ZeroBottom C_OutOfBounds C_CarryError) (k_Ratio : Mak G 1 "Ratio" C_Ratio 3 (S_ginit C_Ratio C_ZeroBottom) []) {f : Addr} {fd : FuncData} (F : L2.Fun G.K "__add__" "Ratio.__add__" s_Ratio___add__ f fd) (b : L2.Binds G.K fd ["self", "other"] []) : Fnx G 3 f 2 (S_gadd C_Ratio) [] := by
  refine fnx_of F sc_Ratio___add__ rfl b .nil rfl (fun cdv A outer s H FF hr tk => ⟨_, (pss_one (ps_ret (pe_mak k_Ratio hr (by decide) tk rfl (pa_cons (pe_bin (os_add hr tk) (pe_bin (os_mul hr tk) (pe_fld (pe_var (i := 0) rfl (Or.inl rfl) nd_self.1 nd_self.2) rfl) (pe_fld (pe_var (i := 1) rfl (Or.inl rfl) nd_other.1 nd_other.2) rfl)) (pe_bin (os_mul hr tk) (pe_fld (pe_var (i := 1) rfl (Or.inl rfl) nd_other.1 nd_other.2) rfl) (pe_fld (pe_var (i := 0) rfl (Or.inl rfl) nd_self.1 nd_self.2) rfl))) (pa_cons (pe_bin (os_mul hr tk) (pe_fld (pe_var (i := 0) rfl (Or.inl rfl) nd_self.1 nd_self.2) rfl) (pe_fld (pe_var (i := 1) rfl (Or.inl rfl) nd_other.1 nd_other.2) rfl)) pa_nil))))), ?_⟩)
  rintro ds m K E - ⟨x, y, rfl, hx, hy, ok, k⟩
  show Ws _ _ _ [some (rq C_Ratio x), some (rq C_Ratio y)] _ _
  try dsimp only [cx_G, cx_K]
  have R := T.R_Ratio
  walk_at "go_2"
  all_goals first | exact hx.1.mulX hy.2 (by decide) | exact hy.1.mulX hx.2 (by decide) | exact hx.2.mulX hy.2 (by decide) | exact Int.mul_ne_zero (den_ne x) (den_ne y) | exact ok | (rw [q_add]; exact k)
theorem ok_gsub (T : Txt G C_Ratio C_ZeroBottom C_OutOfBounds C_CarryError) (k_Ratio : Mak G 1 "Ratio" C_Ratio 3 (S_ginit C_Ratio C_ZeroBottom) []) {f : Addr} {fd : FuncData} (F : L2.Fun G.K "__sub__" "Ratio.__sub__" s_Ratio___sub__ f fd) (b : L2.Binds G.K fd ["self", "other"] []) : Fnx G 3 f 2 (S_gsub C_Ratio) [] := by
  refine fnx_of F sc_Ratio___sub__ rfl b .nil rfl (fun cdv A outer s H FF hr tk => ⟨_, (pss_one (ps_ret (pe_mak k_Ratio hr (by decide) tk rfl (pa_cons (pe_bin (os_sub hr tk) (pe_bin (os_mul hr tk) (pe_fld (pe_var (i := 0) rfl (Or.inl rfl) nd_self.1 nd_self.2) rfl) (pe_fld (pe_var (i := 1) rfl (Or.inl rfl) nd_other.1 nd_other.2) rfl)) (pe_bin (os_mul hr tk) (pe_fld (pe_var (i := 1) rfl (Or.inl rfl) nd_other.1 nd_other.2) rfl) (pe_fld (pe_var (i := 0) rfl (Or.inl rfl) nd_self.1 nd_self.2) rfl))) (pa_cons (pe_bin (os_mul hr tk) (pe_fld (pe_var (i := 0) rfl (Or.inl rfl) nd_self.1 nd_self.2) rfl) (pe_fld (pe_var (i := 1) rfl (Or.inl rfl) nd_other.1 nd_other.2) rfl)) pa_nil))))), ?_⟩)
  rintro ds m K E - ⟨x, y, rfl, hx, hy, ok, k⟩
  show Ws _ _ _ [some (rq C_Ratio x), some (rq C_Ratio y)] _ _
  try dsimp only [cx_G, cx_K]
  have R := T.R_Ratio
  walk_at "go_2"
  all_goals first | exact hx.1.mulX hy.2 (by decide) | exact hy.1.mulX hx.2 (by decide) | exact hx.2.mulX hy.2 (by decide) | exact Int.mul_ne_zero (den_ne x) (den_ne y) | exact ok | (rw [q_sub]; exact k)
theorem ok_gmul (T : Txt G C_Ratio C_ZeroBottom C_OutOfBounds C_CarryError) (k_Ratio : Mak G 1 "Ratio" C_Ratio 3 (S_ginit C_Ratio C_ZeroBottom) []) {f : Addr} {fd : FuncData} (F : L2.Fun G.K "__mul__" "Ratio.__mul__" s_Ratio___mul__ f fd) (b : L2.Binds G.K fd ["self", "other"] []) : Fnx G 3 f 2 (S_gmul C_Ratio) [] := by
  refine fnx_of F sc_Ratio___mul__ rfl b .nil rfl (fun cdv A outer s H FF hr tk => ⟨_, (pss_one (ps_ret (pe_mak k_Ratio hr (by decide) tk rfl (pa_cons (pe_bin (os_mul hr tk) (pe_fld (pe_var (i := 0) rfl (Or.inl rfl) nd_self.1 nd_self.2) rfl) (pe_fld (pe_var (i := 1) rfl (Or.inl rfl) nd_other.1 nd_other.2) rfl)) (pa_cons (pe_bin (os_mul hr tk) (pe_fld (pe_var (i := 0) rfl (Or.inl rfl) nd_self.1 nd_self.2) rfl) (pe_fld (pe_var (i := 1) rfl (Or.inl rfl) nd_other.1 nd_other.2) rfl)) pa_nil))))), ?_⟩)
  rintro ds m K E - ⟨x, y, rfl, hx, hy, ok, k⟩
  show Ws _ _ _ [some (rq C_Ratio x), some (rq C_Ratio y)] _ _
  try dsimp only [cx_G, cx_K]
  have R := T.R_Ratio
  walk_at "go_2"
  all_goals first | exact hx.1.mulX hy.1 (by decide) | exact hx.2.mulX hy.2 (by decide) | exact Int.mul_ne_zero (den_ne x) (den_ne y) | exact ok | (rw [q_mul]; exact k)
theorem ok_gneg (T : Txt G C_Ratio C_ZeroBottom C_OutOfBounds C_CarryError) (k_Ratio : Mak G 1 "Ratio" C_Ratio 3 (S_ginit C_Ratio C_ZeroBottom) []) {f : Addr} {fd : FuncData} (F : L2.Fun G.K "__neg__" "Ratio.__neg__" s_Ratio___neg__ f fd) (b : L2.Binds G.K fd ["self"] []) : Fnx G 3 f 1 (S_gneg C_Ratio) [] := by
  refine fnx_of F sc_Ratio___neg__ rfl b .nil rfl (fun cdv A outer s H FF hr tk => ⟨_, (pss_one (ps_ret (pe_mak k_Ratio hr (by decide) tk rfl (pa_cons (pe_una (us_neg hr tk) (pe_fld (pe_var (i := 0) rfl (Or.inl rfl) nd_self.1 nd_self.2) rfl)) (pa_cons (pe_fld (pe_var (i := 0) rfl (Or.inl rfl) nd_self.1 nd_self.2) rfl) pa_nil))))), ?_⟩)
  rintro ds m K E - ⟨x, rfl, k⟩
  show Ws _ _ _ [some (rq C_Ratio x)] _ _
  try dsimp only [cx_G, cx_K]
  have R := T.R_Ratio
  walk_at "go_2"
  all_goals first | exact den_ne x | exact dok_one (by rw [Int.natAbs_neg]; exact x.reduced) | (rw [q_neg]; exact k)
theorem ok_gabs (T : Txt G C_Ratio C_ZeroBottom C_OutOfBounds C_CarryError) (k_Ratio : Mak G 1 "Ratio" C_Ratio 3 (S_ginit C_Ratio C_ZeroBottom) []) {f : Addr} {fd : FuncData} (F : L2.Fun G.K "__abs__" "Ratio.__abs__" s_Ratio___abs__ f fd) (b : L2.Binds G.K fd ["self"] []) : Fnx G 3 f 1 (S_gabs C_Ratio) [] := by
  refine fnx_of F sc_Ratio___abs__ rfl b .nil rfl (fun cdv A outer s H FF hr tk => ⟨_, (pss_one (ps_ret (pe_mak k_Ratio hr (by decide) tk rfl (pa_cons (pe_cb (cs_absO hr tk) rfl T.n_abs bt_abs (pa_cons (pe_fld (pe_var (i := 0) rfl (Or.inl rfl) nd_self.1 nd_self.2) rfl) pa_nil)) (pa_cons (pe_fld (pe_var (i := 0) rfl (Or.inl rfl) nd_self.1 nd_self.2) rfl) pa_nil))))), ?_⟩)
  rintro ds m K E - ⟨x, rfl, k⟩
  show Ws _ _ _ [some (rq C_Ratio x)] _ _
  try dsimp only [cx_G, cx_K]
  have R := T.R_Ratio
  walk_at "go_2"
  all_goals first | exact den_ne x | exact dok_one (by rw [Int.natAbs_natCast]; exact x.reduced) | exact k
theorem ok_gdiv (T : Txt G C_Ratio C_ZeroBottom C_OutOfBounds C_CarryError) (k_Ratio : Mak G 1 "Ratio" C_Ratio 3 (S_ginit C_Ratio C_ZeroBottom) []) {f : Addr} {fd : FuncData} (F : L2.Fun G.K "divided" "Ratio.divided" s_Ratio_divided f fd) (b : L2.Binds G.K fd ["self", "other"] []) : Fnx G 3 f 2 (S_gdiv C_Ratio C_ZeroBottom) [] := by
  refine fnx_of F sc_Ratio_divided rfl b .nil rfl (fun cdv A outer s H FF hr tk => ⟨_, (pss_cons (ps_if (pt_cm (os_eqF hr tk) (pe_fld (pe_var (i := 1) rfl (Or.inl rfl) nd_other.1 nd_other.2) rfl) pe_int (nomark _)) (pss_one (ps_rs0 T.x0_ZeroBottom rfl tk rfl)) pss_nil) (pss_one (ps_ret (pe_mak k_Ratio hr (by decide) tk rfl (pa_cons (pe_bin (os_mul hr tk) (pe_fld (pe_var (i := 0) rfl (Or.inl rfl) nd_self.1 nd_self.2) rfl) (pe_fld (pe_var (i := 1) rfl (Or.inl rfl) nd_other.1 nd_other.2) rfl)) (pa_cons (pe_bin (os_mul hr tk) (pe_fld (pe_var (i := 0) rfl (Or.inl rfl) nd_self.1 nd_self.2) rfl) (pe_fld (pe_var (i := 1) rfl (Or.inl rfl) nd_other.1 nd_other.2) rfl)) pa_nil)))))), ?_⟩)
  rintro ds m K E - ⟨x, y, rfl, hx, hy, k⟩
  show Ws _ _ _ [some (rq C_Ratio x), some (rq C_Ratio y)] _ _
  try dsimp only [cx_G, cx_K]
  have R := T.R_Ratio
  rcases k with ⟨z, k⟩ | ⟨n, ok, k⟩
  · have zn : y.num = 0 := by rw [z]; rfl
    walk_at "go_2"
    all_goals first | exact k | exact absurd zn ‹_›
  · walk_at "go_2"
    all_goals first | exact absurd ‹y.num = 0› (num_ne n) | exact hx.1.mulX hy.2 (by decide) | exact hx.2.mulX hy.1 (by decide) | exact Int.mul_ne_zero (den_ne x) (num_ne n) | exact ok | (rw [q_div]; exact k)
theorem ok_graised (T : Txt G C_Ratio C_ZeroBottom C_OutOfBounds C_CarryError) (k_Ratio : Mak G 1 "Ratio" C_Ratio 3 (S_ginit C_Ratio C_ZeroBottom) []) {f : Addr} {fd : FuncData} (F : L2.Fun G.K "raised" "Ratio.raised" s_Ratio_raised f fd) (b : L2.Binds G.K fd ["self", "n"] []) : Fnx G 3 f 2 (S_graised C_Ratio C_OutOfBounds) [] := by
  refine fnx_of F sc_Ratio_raised rfl b .nil rfl (fun cdv A outer s H FF hr tk => ⟨_, (pss_cons (ps_if (pt_not (pt_ch os_le os_le pe_int (pe_var (i := 1) rfl (Or.inl rfl) nd_n.1 nd_n.2) (pe_gcD rfl T.gc_MOST_EXPONENT))) (pss_one (ps_rs T.x_OutOfBounds rfl hr (by decide) tk rfl (pa_cons (pe_var (i := 1) rfl (Or.inl rfl) nd_n.1 nd_n.2) pa_nil))) pss_nil) (pss_cons (ps_set (i := 2) sc_Ratio_raised.nd rfl (Or.inl rfl) pe_int) (pss_cons (ps_set (i := 3) sc_Ratio_raised.nd rfl (Or.inl rfl) pe_int) (pss_cons (ps_for (passes_of rfl) rfl (pi_range1 rfl T.n_range (pa_cons (pe_var (i := 1) rfl (Or.inl rfl) nd_n.1 nd_n.2) pa_nil)) (pg_name (i := 4) sc_Ratio_raised.nd rfl (Or.inl rfl)) (pss_cons (ps_set (i := 2) sc_Ratio_raised.nd rfl (Or.inl rfl) (pe_bin (os_mul hr tk) (pe_var (i := 2) rfl (Or.inl rfl) nd_top.1 nd_top.2) (pe_fld (pe_var (i := 0) rfl (Or.inl rfl) nd_self.1 nd_self.2) rfl))) (pss_one (ps_set (i := 3) sc_Ratio_raised.nd rfl (Or.inl rfl) (pe_bin (os_mul hr tk) (pe_var (i := 3) rfl (Or.inl rfl) nd_bottom.1 nd_bottom.2) (pe_fld (pe_var (i := 0) rfl (Or.inl rfl) nd_self.1 nd_self.2) rfl)))))) (pss_one (ps_ret (pe_mak k_Ratio hr (by decide) tk rfl (pa_cons (pe_var (i := 2) rfl (Or.inl rfl) nd_top.1 nd_top.2) (pa_cons (pe_var (i := 3) rfl (Or.inl rfl) nd_bottom.1 nd_bottom.2) pa_nil))))))))), ?_⟩)
  rintro ds m K E - ⟨x, n, rfl, hx, k⟩
  let R0 : Int → Int → Option D → Rho := fun t c o => [some (rq C_Ratio x), some (.int n), some (.int t), some (.int c), o]
  show Ws _ _ _ [some (rq C_Ratio x), some (.int n), none, none, none] _ _
  try dsimp only [cx_G, cx_K]
  have R := T.R_Ratio
  rcases k with ⟨z, k⟩ | ⟨h0, h1, k⟩
  · walk_at "go_2"
    all_goals first | exact k | exact absurd ⟨‹_›, ‹_›⟩ z | skip
  · walk_at "go_2"
    all_goals try first | exact absurd h0 ‹_› | exact absurd h1 ‹_›
    refine ws_range1 ?_
    walk_at "go_2"
    refine ⟨n, fun i r' m' => m' = m ∧ ∃ o, r' = R0 (x.num ^ i) ((x.den : Int) ^ i) o, rfl, by omega, ⟨rfl, none, by rw [Int.pow_zero, Int.pow_zero]; rfl⟩, ?_, ?_⟩
    · rintro i r' m' hi ⟨rfl, o, rfl⟩
      have la : i * 15000 ≤ 64 * 15000 := Nat.mul_le_mul (by omega) (Nat.le_refl _)
      walk_at "go_2"
      · exact (hx.t.pow i).mulX hx.t (by omega)
      · exact (hx.b.pow i).mulX hx.b (by omega)
      · exact ⟨some (.int i), by rw [Int.pow_succ, Int.pow_succ]; rfl⟩
    · rintro r' m' ⟨rfl, o, rfl⟩
      have e : dv (x.num ^ n.toNat) ((x.den : Int) ^ n.toNat) = x ^ n.toNat := by rw [dv_pow, dv_self]
      walk_at "go_2"
      · exact pow_ne_zeroI (den_ne x) _
      · refine dok_one ?_
        rw [Int.natAbs_pow, Int.natAbs_pow]
        exact cop_pow x.reduced _
      · rw [e]
        exact k
local macro_rules | `(tactic| walk_at "fld_3") => `(tactic| (with_reducible refine we_fldF ?_))
local macro_rules | `(tactic| walk_at "useWe_3") => `(tactic| first | (with_reducible refine we_mt ?_) | (with_reducible refine we_ratG ?_) | (with_reducible refine we_ratG1 ?_) | fail)
local macro_rules | `(tactic| walk_at "sWe_3") => `(tactic| first
  | ((with_reducible refine we_var (d := ?d) ?hv ?hk); case hv => rfl)
  | (with_reducible first
    | refine we_cint ?_ | refine we_2 ?_ | refine we_cl0 ?_ | refine we_tup ?_ | refine we_1 ?_ | refine we_c2 ?_ | refine we_cbl ?_ | refine we_cnon ?_ | refine we_cty ?_ | refine we_cref ?_
    | refine we_op ?_ | refine we_andV ?_ | refine we_orV ?_ | refine we_notV ?_ | refine we_3 ?_ | refine we_ifx ?_ | refine we_cstr ?_ | refine we_clH ?_)
  | walk_at "fld_3"
  | walk_at "useWe_3")
local macro_rules | `(tactic| walk_at "useW2_3") => `(tactic| first
  | (with_reducible refine w2_addO (by assumption) (by decide) .fixed .fixed ?_) | (with_reducible refine w2_subO (by assumption) (by decide) .fixed .fixed ?_) | (with_reducible refine w2_mulO (by assumption) (by decide) .fixed .fixed ?_) | (with_reducible refine w1_negO (by assumption) (by decide) .fixed ?_) | (with_reducible refine w2_inO (by assumption) (by decide) .fixed ?_) | fail)
local macro_rules | `(tactic| walk_at "sW2_3") => `(tactic| first
  | (with_reducible first
    | refine w2_add ?_ | refine w2_sub ?_ | refine w2_mul ⟨?_, ?_⟩ | refine w2_fdiv ⟨?_, ?_⟩ | refine w2_mod ⟨?_, ?_⟩ | refine w2_pow ⟨?_, ?_⟩ | refine w2_eqI ?_ | refine w2_neI ?_ | refine w2_lt ?_ | refine w2_le ?_ | refine w2_gt ?_ | refine w2_ge ?_ | refine w2_eqFI ?_ | refine w2_neFI ?_)
  | ((with_reducible refine w2_ixT (d := ?d) ⟨?hv, ?hk⟩); case hv => rfl)
  | ((with_reducible refine w2_ixL (d := ?d) ⟨?hv, ?hk⟩); case hv => rfl)
  | ((with_reducible refine w2_ixM (d := ?d) .head ⟨?hv, ?hk⟩); case hv => rfl)
  | (with_reducible first
    | refine w2_eqIH ?_ | refine w2_neIH ?_ | refine w2_mulH ⟨?_, ?_⟩ | refine w2_addH ?_ | refine w2_subH ?_ | refine w2_isN ?_ | refine w2_notN ?_ | refine w2_isB ?_ | refine w2_notB ?_)
  | walk_at "useW2_3")
local macro_rules | `(tactic| walk_at "sWa_3") => `(tactic| with_reducible first | refine wa_nil ?_ | refine wa_cons ?_)
local macro_rules | `(tactic| walk_at "useWs_3") => `(tactic| first | (with_reducible refine ws_rs0 ?_) | (with_reducible refine ws_rs ?_) | fail)
local macro_rules | `(tactic| walk_at "sWs_3") => `(tactic| first
  | (with_reducible first | refine ws_seq ?_ | refine ws_ret ?_ | refine ws_asg ?_ | refine ws_next ?_ | refine ws_drop ?_ | refine ws_par ?_ | refine ws_par3 ?_ | refine ws_fldN ?_ | refine ws_brk ?_ | refine ws_cont ?_)
  | walk_at "useWs_3")
local macro_rules | `(tactic| walk_at "sWt_3") => `(tactic| with_reducible first | refine wt_test ?_ | refine wt_tr ?_ | refine wt_and ?_ | refine wt_or ?_ | refine wt_not ?_)
local macro_rules | `(tactic| walk_at "useWc_3") => `(tactic| first | (with_reducible refine wc_absI ?_) | fail)
local macro_rules | `(tactic| walk_at "sWc_3") => `(tactic| first
  | (with_reducible first | refine wc_int ?_ | refine wc_abs ?_ | refine wc_min ?_ | refine wc_gcd ?_ | refine wc_isiT .int kit_ii ?_ | refine wc_isiT .int kit_ib ?_ | refine wc_len .lst ?_ | refine wc_len .tup ?_ | refine wc_strI ?_ ?_)
  | walk_at "useWc_3")
local macro_rules | `(tactic| walk_at "sWg_3") => `(tactic| with_reducible first | refine wg_name ?_ | refine wg_subM ?_ | refine wg_tup rfl ?_)
local macro_rules | `(tactic| walk_at "sW1_3") => `(tactic| first | (with_reducible refine w1_neg ?_) | walk_at "useW2_3")
local macro_rules | `(tactic| walk_at "sWgs_3") => `(tactic| with_reducible first | refine wgs_cons ?_ | refine wgs_nil ?_)
local macro_rules | `(tactic| walk_at "use_3") => `(tactic| first | (with_reducible refine mt_of0 (by assumption) (by decide) ?_) | fail)
local macro_rules | `(tactic| walk_at "sX_3") => `(tactic| first
  | (with_reducible refine ⟨_, rfl, ?_⟩)
  | (with_reducible refine fld_top (by assumption) ?_) | (with_reducible refine fld_bottom (by assumption) ?_)
  | (with_reducible refine ⟨_, .bl, ?_⟩)
  | ((with_reducible refine ⟨?h, ?_⟩); case h => rfl)
  | (with_reducible refine ⟨_, _, rfl, ?_⟩)
  | (with_reducible refine ⟨_, _, _, rfl, ?_⟩)
  | walk_at "use_3"
  | (with_reducible refine setN_top (by assumption) ?_) | (with_reducible refine setN_bottom (by assumption) ?_)
  | ((with_reducible refine ⟨_, _, _, ?j, _, rfl, rfl, .head, ?h, .head, ?_⟩); case h => rfl)
  | fail)
local macro_rules | `(tactic| walk_at "st_3") => `(tactic| first
  | ((with_reducible show We _ _ _ _ _ _); walk_at "sWe_3")
  | ((with_reducible show W2 _ _ _ _ _ _ _ _); walk_at "sW2_3")
  | ((with_reducible show Wa _ _ _ _ _ _); walk_at "sWa_3")
  | ((with_reducible show Ws _ _ _ _ _ _); walk_at "sWs_3")
  | ((with_reducible show Wt _ _ _ _ _ _); walk_at "sWt_3")
  | ((with_reducible show Wc _ _ _ _ _ _ _); walk_at "sWc_3")
  | ((with_reducible show Wg _ _ _ _ _ _ _); walk_at "sWg_3")
  | ((with_reducible show W1 _ _ _ _ _ _ _); walk_at "sW1_3")
  | ((with_reducible show Wgs _ _ _ _ _ _ _); walk_at "sWgs_3")
  | walk_at "sX_3" | fail)
local macro_rules | `(tactic| walk_at "wif_3") => `(tactic| (with_reducible refine ws_if ?_))
local macro_rules | `(tactic| walk_at "br_3") => `(tactic| ((with_reducible refine ⟨fun hb => ?_, fun hb => ?_⟩) <;> (try simp only [decide_eq_true_eq, decide_eq_false_iff_not, Bool.not_eq_true', Bool.not_eq_false', Bool.and_eq_true, Bool.or_eq_true, reduceCtorEq, List.length_map, Bool.not_true, Bool.not_false, DL.isNon, not_true_eq_false, not_false_eq_true, Classical.not_not, List.all_cons, List.all_nil, id_eq, Bool.and_self, Bool.true_and, decide_true, decide_false] at hb)))
local macro_rules | `(tactic| walk_at "go_3") => `(tactic| repeat' (first | walk_at "st_3" | walk_at "wif_3" | walk_at "br_3" | fail))
theorem ok_gpow (T : Txt G C_Ratio C_ZeroBottom C_OutOfBounds C_CarryError) (m_Ratio_raised : Met G 3 C_Ratio ["top", "bottom"] "raised" 2 (S_graised C_Ratio C_OutOfBounds) []) {f : Addr} {fd : FuncData} (F : L2.Fun G.K "__pow__" "Ratio.__pow__" s_Ratio___pow__ f fd) (b : L2.Binds G.K fd ["self", "other"] []) : Fnx G 4 f 2 (S_graised C_Ratio C_OutOfBounds) [] := by
  refine fnx_of F sc_Ratio___pow__ rfl b .nil rfl (fun cdv A outer s H FF hr tk => ⟨_, (pss_one (ps_ret (pe_mth hr tk (pe_var (i := 0) rfl (Or.inl rfl) nd_self.1 nd_self.2) (pa_cons (pe_var (i := 1) rfl (Or.inl rfl) nd_other.1 nd_other.2) pa_nil)))), ?_⟩)
  rintro ds m K E - ⟨x, n, rfl, hx, k⟩
  show Ws _ _ _ [some (rq C_Ratio x), some (.int n)] _ _
  try dsimp only [cx_G, cx_K]
  walk_at "go_3"
  exact ⟨x, n, rfl, hx, k⟩
theorem ok_gcmp (T : Txt G C_Ratio C_ZeroBottom C_OutOfBounds C_CarryError) {f : Addr} {fd : FuncData} (F : L2.Fun G.K "compare" "Ratio.compare" s_Ratio_compare f fd) (b : L2.Binds G.K fd ["self", "other"] []) : Fnx G 1 f 2 (S_gcmp C_Ratio) [] := by
  refine fnx_of F sc_Ratio_compare rfl b .nil rfl (fun cdv A outer s H FF hr tk => ⟨_, (pss_cons (ps_set (i := 2) sc_Ratio_compare.nd rfl (Or.inl rfl) (pe_bin (os_mul hr tk) (pe_fld (pe_var (i := 0) rfl (Or.inl rfl) nd_self.1 nd_self.2) rfl) (pe_fld (pe_var (i := 1) rfl (Or.inl rfl) nd_other.1 nd_other.2) rfl))) (pss_cons (ps_set (i := 3) sc_Ratio_compare.nd rfl (Or.inl rfl) (pe_bin (os_mul hr tk) (pe_fld (pe_var (i := 1) rfl (Or.inl rfl) nd_other.1 nd_other.2) rfl) (pe_fld (pe_var (i := 0) rfl (Or.inl rfl) nd_self.1 nd_self.2) rfl))) (pss_cons (ps_if (pt_cm os_lt (pe_var (i := 2) rfl (Or.inl rfl) nd_left.1 nd_left.2) (pe_var (i := 3) rfl (Or.inl rfl) nd_right.1 nd_right.2) (nomark _)) (pss_one (ps_ret (pe_una (us_neg hr tk) pe_int))) pss_nil) (pss_cons (ps_if (pt_cm os_gt (pe_var (i := 2) rfl (Or.inl rfl) nd_left.1 nd_left.2) (pe_var (i := 3) rfl (Or.inl rfl) nd_right.1 nd_right.2) (nomark _)) (pss_one (ps_ret pe_int)) pss_nil) (pss_one (ps_ret pe_int)))))), ?_⟩)
  rintro ds m K E - ⟨x, y, rfl, hx, hy, k⟩
  show Ws _ _ _ [some (rq C_Ratio x), some (rq C_Ratio y), none, none] _ _
  try dsimp only [cx_G, cx_K]
  have R := T.R_Ratio
  have e : cq x y = if x.num * y.den < y.num * x.den then -1 else if y.num * x.den < x.num * y.den then 1 else 0 := by
    unfold cq
    simp only [lt_q]
  rw [e] at k
  walk_at "go_3"
  · exact hx.1.mulX hy.2 (by decide)
  · exact hy.1.mulX hx.2 (by decide)
  · rw [if_pos ‹_›] at k
    exact k
  · rw [if_neg ‹_›, if_pos ‹_›] at k
    exact k
  · rw [if_neg ‹_›, if_neg ‹_›] at k
    exact k
theorem ok_gsign (T : Txt G C_Ratio C_ZeroBottom C_OutOfBounds C_CarryError) {f : Addr} {fd : FuncData} (F : L2.Fun G.K "sign" "Ratio.sign" s_Ratio_sign f fd) (b : L2.Binds G.K fd ["self"] []) : Fnx G 1 f 1 (S_gsign C_Ratio) [] := by
  refine fnx_of F sc_Ratio_sign rfl b .nil rfl (fun cdv A outer s H FF hr tk => ⟨_, (pss_cons (ps_if (pt_cm os_lt (pe_fld (pe_var (i := 0) rfl (Or.inl rfl) nd_self.1 nd_self.2) rfl) pe_int (nomark _)) (pss_one (ps_ret (pe_una (us_neg hr tk) pe_int))) pss_nil) (pss_cons (ps_if (pt_cm os_gt (pe_fld (pe_var (i := 0) rfl (Or.inl rfl) nd_self.1 nd_self.2) rfl) pe_int (nomark _)) (pss_one (ps_ret pe_int)) pss_nil) (pss_one (ps_ret pe_int)))), ?_⟩)
  rintro ds m K E - ⟨x, rfl, k⟩
  show Ws _ _ _ [some (rq C_Ratio x)] _ _
  try dsimp only [cx_G, cx_K]
  have R := T.R_Ratio
  have e : cq x 0 = if x.num < 0 then -1 else if 0 < x.num then 1 else 0 := by
    unfold cq
    simp only [num_neg_iff, num_pos_iff]
  rw [e] at k
  walk_at "go_3"
  · rw [if_pos ‹_›] at k
    exact k
  · rw [if_neg ‹_›, if_pos ‹_›] at k
    exact k
  · rw [if_neg ‹_›, if_neg ‹_›] at k
    exact k
theorem ok_gdown (T : Txt G C_Ratio C_ZeroBottom C_OutOfBounds C_CarryError) {f : Addr} {fd : FuncData} (F : L2.Fun G.K "rounded_down" "Ratio.rounded_down" s_Ratio_rounded_down f fd) (b : L2.Binds G.K fd ["self"] []) : Fnx G 1 f 1 (S_gdown C_Ratio) [] := by
  refine fnx_of F sc_Ratio_rounded_down rfl b .nil rfl (fun cdv A outer s H FF hr tk => ⟨_, (pss_one (ps_ret (pe_bin os_fdiv (pe_fld (pe_var (i := 0) rfl (Or.inl rfl) nd_self.1 nd_self.2) rfl) (pe_fld (pe_var (i := 0) rfl (Or.inl rfl) nd_self.1 nd_self.2) rfl)))), ?_⟩)
  rintro ds m K E - ⟨x, rfl, hx, k⟩
  show Ws _ _ _ [some (rq C_Ratio x)] _ _
  try dsimp only [cx_G, cx_K]
  have R := T.R_Ratio
  rw [← Int.fdiv_eq_ediv_of_nonneg _ (by omega)] at k
  walk_at "go_3"
  all_goals first | exact hx | exact k
theorem ok_gup (T : Txt G C_Ratio C_ZeroBottom C_OutOfBounds C_CarryError) {f : Addr} {fd : FuncData} (F : L2.Fun G.K "rounded_up" "Ratio.rounded_up" s_Ratio_rounded_up f fd) (b : L2.Binds G.K fd ["self"] []) : Fnx G 1 f 1 (S_gup C_Ratio) [] := by
  refine fnx_of F sc_Ratio_rounded_up rfl b .nil rfl (fun cdv A outer s H FF hr tk => ⟨_, (pss_one (ps_ret (pe_una (us_neg hr tk) (pe_bin os_fdiv (pe_una (us_neg hr tk) (pe_fld (pe_var (i := 0) rfl (Or.inl rfl) nd_self.1 nd_self.2) rfl)) (pe_fld (pe_var (i := 0) rfl (Or.inl rfl) nd_self.1 nd_self.2) rfl))))), ?_⟩)
  rintro ds m K E - ⟨x, rfl, hx, k⟩
  show Ws _ _ _ [some (rq C_Ratio x)] _ _
  try dsimp only [cx_G, cx_K]
  have R := T.R_Ratio
  rw [← Int.fdiv_eq_ediv_of_nonneg _ (by omega)] at k
  walk_at "go_3"
  all_goals first | exact hx | exact k
end
end K01
set_option Elab.async false
set_option linter.all false
set_option maxRecDepth 100000
set_option maxHeartbeats 4000000
namespace K01
open PySem PySem.Spec L2 DL
open PyProof.Rows hiding St
/-! one step, by the goal's head -/

/-! Ratio and Span by numbers: their promises used -/
local macro_rules | `(tactic| walk_at "fld_1") => `(tactic| (with_reducible refine we_fldF ?_))
local macro_rules | `(tactic| walk_at "useWe_1") => `(tactic| first | (with_reducible refine we_mt ?_) | (with_reducible refine we_ratQ ?_) | (with_reducible refine we_ratQ1 ?_) | (with_reducible refine we_spn ?_) | fail)
local macro_rules | `(tactic| walk_at "sWe_1") => `(tactic| first
  | ((with_reducible refine we_var (d := ?d) ?hv ?hk); case hv => rfl)
  | (with_reducible first
    | refine we_cint ?_ | refine we_2 ?_ | refine we_cl0 ?_ | refine we_tup ?_ | refine we_1 ?_ | refine we_c2 ?_ | refine we_cbl ?_ | refine we_cnon ?_ | refine we_cty ?_ | refine we_cref ?_
    | refine we_op ?_ | refine we_andV ?_ | refine we_orV ?_ | refine we_notV ?_ | refine we_3 ?_ | refine we_ifx ?_ | refine we_cstr ?_ | refine we_clH ?_)
  | walk_at "fld_1"
  | walk_at "useWe_1")
local macro_rules | `(tactic| walk_at "useW2_1") => `(tactic| first
  | (with_reducible refine w2_addO (by assumption) (by decide) .fixed .fixed ?_) | (with_reducible refine w2_subO (by assumption) (by decide) .fixed .fixed ?_) | (with_reducible refine w2_mulO (by assumption) (by decide) .fixed .fixed ?_) | (with_reducible refine w1_negO (by assumption) (by decide) .fixed ?_) | (with_reducible refine w2_inO (by assumption) (by decide) .fixed ?_) | fail)
local macro_rules | `(tactic| walk_at "sW2_1") => `(tactic| first
  | (with_reducible first
    | refine w2_add ?_ | refine w2_sub ?_ | refine w2_mul ⟨?_, ?_⟩ | refine w2_fdiv ⟨?_, ?_⟩ | refine w2_mod ⟨?_, ?_⟩ | refine w2_pow ⟨?_, ?_⟩ | refine w2_eqI ?_ | refine w2_neI ?_ | refine w2_lt ?_ | refine w2_le ?_ | refine w2_gt ?_ | refine w2_ge ?_ | refine w2_eqFI ?_ | refine w2_neFI ?_)
  | ((with_reducible refine w2_ixT (d := ?d) ⟨?hv, ?hk⟩); case hv => rfl)
  | ((with_reducible refine w2_ixL (d := ?d) ⟨?hv, ?hk⟩); case hv => rfl)
  | ((with_reducible refine w2_ixM (d := ?d) .head ⟨?hv, ?hk⟩); case hv => rfl)
  | (with_reducible first
    | refine w2_eqIH ?_ | refine w2_neIH ?_ | refine w2_mulH ⟨?_, ?_⟩ | refine w2_addH ?_ | refine w2_subH ?_ | refine w2_isN ?_ | refine w2_notN ?_ | refine w2_isB ?_ | refine w2_notB ?_)
  | walk_at "useW2_1")
local macro_rules | `(tactic| walk_at "sWa_1") => `(tactic| with_reducible first | refine wa_nil ?_ | refine wa_cons ?_)
local macro_rules | `(tactic| walk_at "useWs_1") => `(tactic| first | (with_reducible refine ws_rs0 ?_) | (with_reducible refine ws_rs ?_) | fail)
local macro_rules | `(tactic| walk_at "sWs_1") => `(tactic| first
  | (with_reducible first | refine ws_seq ?_ | refine ws_ret ?_ | refine ws_asg ?_ | refine ws_next ?_ | refine ws_drop ?_ | refine ws_par ?_ | refine ws_par3 ?_ | refine ws_fldN ?_ | refine ws_brk ?_ | refine ws_cont ?_)
  | walk_at "useWs_1")
local macro_rules | `(tactic| walk_at "sWt_1") => `(tactic| with_reducible first | refine wt_test ?_ | refine wt_tr ?_ | refine wt_and ?_ | refine wt_or ?_ | refine wt_not ?_)
local macro_rules | `(tactic| walk_at "useWc_1") => `(tactic| fail)
local macro_rules | `(tactic| walk_at "sWc_1") => `(tactic| first
  | (with_reducible first | refine wc_int ?_ | refine wc_abs ?_ | refine wc_min ?_ | refine wc_gcd ?_ | refine wc_isiT .int kit_ii ?_ | refine wc_isiT .int kit_ib ?_ | refine wc_len .lst ?_ | refine wc_len .tup ?_ | refine wc_strI ?_ ?_)
  | walk_at "useWc_1")
local macro_rules | `(tactic| walk_at "sWg_1") => `(tactic| with_reducible first | refine wg_name ?_ | refine wg_subM ?_ | refine wg_tup rfl ?_)
local macro_rules | `(tactic| walk_at "sW1_1") => `(tactic| first | (with_reducible refine w1_neg ?_) | walk_at "useW2_1")
local macro_rules | `(tactic| walk_at "sWgs_1") => `(tactic| with_reducible first | refine wgs_cons ?_ | refine wgs_nil ?_)
local macro_rules | `(tactic| walk_at "use_1") => `(tactic| fail)
local macro_rules | `(tactic| walk_at "sX_1") => `(tactic| first
  | (with_reducible refine ⟨_, rfl, ?_⟩)
  | (with_reducible refine fld_top (by assumption) ?_) | (with_reducible refine fld_bottom (by assumption) ?_)
  | (with_reducible refine ⟨_, .bl, ?_⟩)
  | ((with_reducible refine ⟨?h, ?_⟩); case h => rfl)
  | (with_reducible refine ⟨_, _, rfl, ?_⟩)
  | (with_reducible refine ⟨_, _, _, rfl, ?_⟩)
  | walk_at "use_1"
  | (with_reducible refine setN_top (by assumption) ?_) | (with_reducible refine setN_bottom (by assumption) ?_)
  | ((with_reducible refine ⟨_, _, _, ?j, _, rfl, rfl, .head, ?h, .head, ?_⟩); case h => rfl)
  | fail)
local macro_rules | `(tactic| walk_at "st_1") => `(tactic| first
  | ((with_reducible show We _ _ _ _ _ _); walk_at "sWe_1")
  | ((with_reducible show W2 _ _ _ _ _ _ _ _); walk_at "sW2_1")
  | ((with_reducible show Wa _ _ _ _ _ _); walk_at "sWa_1")
  | ((with_reducible show Ws _ _ _ _ _ _); walk_at "sWs_1")
  | ((with_reducible show Wt _ _ _ _ _ _); walk_at "sWt_1")
  | ((with_reducible show Wc _ _ _ _ _ _ _); walk_at "sWc_1")
  | ((with_reducible show Wg _ _ _ _ _ _ _); walk_at "sWg_1")
  | ((with_reducible show W1 _ _ _ _ _ _ _); walk_at "sW1_1")
  | ((with_reducible show Wgs _ _ _ _ _ _ _); walk_at "sWgs_1")
  | walk_at "sX_1" | fail)
local macro_rules | `(tactic| walk_at "wif_1") => `(tactic| (with_reducible refine ws_if ?_))
local macro_rules | `(tactic| walk_at "br_1") => `(tactic| ((with_reducible refine ⟨fun hb => ?_, fun hb => ?_⟩) <;> (try simp only [decide_eq_true_eq, decide_eq_false_iff_not, Bool.not_eq_true', Bool.not_eq_false', Bool.and_eq_true, Bool.or_eq_true, reduceCtorEq, List.length_map, Bool.not_true, Bool.not_false, DL.isNon, not_true_eq_false, not_false_eq_true, Classical.not_not, List.all_cons, List.all_nil, id_eq, Bool.and_self, Bool.true_and, decide_true, decide_false] at hb)))
local macro_rules | `(tactic| walk_at "go_1") => `(tactic| repeat' (first | walk_at "st_1" | walk_at "wif_1" | walk_at "br_1" | fail))
local macro_rules | `(tactic| walk_at "dl_1") => `(tactic| repeat (first | walk_at "st_1" | walk_at "wif_1" | fail))

theorem e60 : (10 : Int) ^ Int.toNat 60 = 1000000000000000000000000000000000000000000000000000000000000 := by decide +kernel
theorem e12 : (10 : Int) ^ Int.toNat 12 = 1000000000000 := by decide +kernel
theorem cp60 : CPow 10 60 := by
  unfold CPow
  decide +kernel
theorem cp12 : CPow 10 12 := by
  unfold CPow
  decide +kernel
theorem fr_big {a b : Int} (h : a.natAbs ≤ 1000000000000000000000000000000000000000000000000000000000000) (k : 0 < b) (l : b ≤ 1000000000000000000000000000000000000000000000000000000000000) : Fr 200 a b :=
  ⟨k, by unfold Bd; have : (1000000000000000000000000000000000000000000000000000000000000 : Nat) < 2 ^ 200 := by decide +kernel
         omega, by unfold Bd; have : (1000000000000000000000000000000000000000000000000000000000000 : Nat) < 2 ^ 200 := by decide +kernel
                   omega⟩
abbrev pr (a b : Int) : D := .tup [.int a, .int b]
section
variable {G : Gx} {C_Ratio C_ZeroBottom C_OutOfBounds C_CarryError : Addr}
theorem ok_digit (T : Txt G C_Ratio C_ZeroBottom C_OutOfBounds C_CarryError) {f : Addr} {fd : FuncData} (F : L2.Fun G.K "_law_digit" "_law_digit" s__law_digit f fd) (b : Binds G.K fd ["pot", "many"] []) : Fnx G 1 f 2 S_digit [] := by
  refine fnx_of F sc__law_digit rfl b .nil rfl (fun cdv A outer s H FF hr tk => ⟨_, (pss_cons (ps_if (PW.pt (pw_and (pt_cm (os_eqF hr tk) (pe_ix ix_seq (pe_var (i := 0) rfl (Or.inl rfl) nd_pot.1 nd_pot.2) pe_int (fun _ _ => rfl)) pe_int (nomark _)) (pw_and1 (pt_cm os_lt (pe_ix ix_seq (pe_var (i := 0) rfl (Or.inl rfl) nd_pot.1 nd_pot.2) pe_int (fun _ _ => rfl)) (pe_cb cs_len rfl T.n_len bt_len (pa_cons (pe_ix ix_seq (pe_var (i := 0) rfl (Or.inl rfl) nd_pot.1 nd_pot.2) pe_int (fun _ _ => rfl)) pa_nil)) (nomark _))))) (pss_cons (ps_asg (pe_ix ix_seq (pe_ix ix_seq (pe_var (i := 0) rfl (Or.inl rfl) nd_pot.1 nd_pot.2) pe_int (fun _ _ => rfl)) (pe_ix ix_seq (pe_var (i := 0) rfl (Or.inl rfl) nd_pot.1 nd_pot.2) pe_int (fun _ _ => rfl)) (fun _ _ => rfl)) (pg_sub (pe_var (i := 0) rfl (Or.inl rfl) nd_pot.1 nd_pot.2) pe_int set_list)) (pss_one (ps_asg (pe_bin (os_add hr tk) (pe_ix ix_seq (pe_var (i := 0) rfl (Or.inl rfl) nd_pot.1 nd_pot.2) pe_int (fun _ _ => rfl)) pe_int) (pg_sub (pe_var (i := 0) rfl (Or.inl rfl) nd_pot.1 nd_pot.2) pe_int set_list)))) pss_nil) (pss_cons (ps_set (i := 2) sc__law_digit.nd rfl (Or.inl rfl) (pe_bin os_mod (pe_ct cs_int rfl T.n_int bt_int (pa_cons (pe_ix ix_seq (pe_var (i := 0) rfl (Or.inl rfl) nd_pot.1 nd_pot.2) pe_int (fun _ _ => rfl)) pa_nil)) (pe_var (i := 1) rfl (Or.inl rfl) nd_many.1 nd_many.2))) (pss_cons (ps_asg (pe_bin os_fdiv (pe_ix ix_seq (pe_var (i := 0) rfl (Or.inl rfl) nd_pot.1 nd_pot.2) pe_int (fun _ _ => rfl)) (pe_var (i := 1) rfl (Or.inl rfl) nd_many.1 nd_many.2)) (pg_sub (pe_var (i := 0) rfl (Or.inl rfl) nd_pot.1 nd_pot.2) pe_int set_list)) (pss_one (ps_ret (pe_var (i := 2) rfl (Or.inl rfl) nd_digit.1 nd_digit.2)))))), ?_⟩)
  rintro ds m K E - ⟨p, many, m0, rfl, h0, hb, ⟨cs, i, r, rfl, hi, hrr, hcs⟩, k⟩
  show Ws _ _ _ [some (.ref p), some (.int many), none] _ _
  dsimp only [cx_G, cx_K]
  have fin : ∀ (cs : List Int) (i r : Int), 0 ≤ i → 0 ≤ r → (∀ c ∈ cs, 0 ≤ c) → K (.int (r.fmod many)) ((p, .lst [.lst (cs.map D.int), .int i, .int (r.fdiv many)]) :: m0) := fun cs i r hi hr hc => by
    rw [Int.fmod_eq_emod_of_nonneg _ (by omega), Int.fdiv_eq_ediv_of_nonneg _ (by omega)]
    exact k _ _ (Int.emod_nonneg _ (by omega)) (Int.emod_lt_of_pos _ h0) ⟨cs, i, _, rfl, hi, Int.ediv_nonneg hr (by omega), hc⟩
  have hne : many ≠ 0 := by omega
  have hdv : CDivX r many := hb.divX hne (by decide)
  walk_at "go_1"
  · obtain ⟨c, hc, hat⟩ := atI_ints hi ‹i < _›
    refine w2_ixL ⟨hat, ?_⟩
    walk_at "go_1"
    · exact hne
    · exact hb.divX hne (by decide)
    · exact fin _ _ _ (by omega) (hcs _ hc) hcs
  all_goals first | exact hne | exact hdv | exact fin _ _ _ hi hrr hcs
theorem cut_pot {ns : List Int} (h : ns.length ≤ 63) : cutD (ns.map D.int) none (some 63) = ns.map D.int := cut63 (by rw [List.length_map]; exact h)
def dabs : D → D
  | .int i => .int (i.natAbs : Int)
  | d => d
theorem ok_pot (T : Txt G C_Ratio C_ZeroBottom C_OutOfBounds C_CarryError) {f : Addr} {fd : FuncData} (F : L2.Fun G.K "_law_start" "_law_start" s__law_start f fd) (b : L2.Binds G.K fd ["script"] []) : Fnx G 1 f 1 (S_pot G.K) [] := by
  refine fnx_of F sc__law_start rfl b .nil rfl (fun cdv A outer s H FF hr tk => ⟨_, (pss_one (ps_ret (pe_lst (pa_cons (pe_lc (own := [("cell", 1)]) (g := gName 1) (tt := tYes) rfl sc__law_start.nd (pi_seq (pe_slice sl_list (pe_var (i := 0) rfl (Or.inl rfl) nd_script.1 nd_script.2) po_none (po_some pe_int))) (blkOk_by (N := N__law_start) (sc := defScope s__law_start) (by decide +kernel)) (fun _ _ _ _ _ => pg_name (i := 1) sc__law_start.nd rfl (Or.inl rfl)) (fun _ _ _ _ _ => pts_nil) (fun _ _ _ _ _ => (pe_cb cs_abs rfl T.n_abs bt_abs (pa_cons (pe_var (i := 1) rfl (Or.inl rfl) nd_cell.1 nd_cell.2) pa_nil)))) (pa_cons pe_int (pa_cons pe_int pa_nil)))))), ?_⟩)
  rintro ds m K E - ⟨d, ns, rfl, sd, hl, k⟩
  show Ws _ _ _ [some d, none] _ _
  dsimp only [cx_G, cx_K]
  refine ws_ret (we_lstM (wa_cons (we_lcm (f := dabs) (we_slS ?_))))
  walk_at "dl_1"
  refine ⟨ns, sd, wo_none (wo_some ?_)⟩
  walk_at "dl_1"
  rw [cut_pot hl]
  refine ⟨_, .lst, by rw [List.length_map]; exact Nat.ble_eq_true_of_le (by omega), ?_, ?_⟩
  · intro x hx q K2 hk
    obtain ⟨i, hi, rfl⟩ := List.mem_map.mp hx
    walk_at "dl_1"
    exact hk
  · walk_at "dl_1"
    intro p hp
    have e : (ns.map D.int).map dabs = (ns.map fun i => (i.natAbs : Int)).map D.int := by
      rw [List.map_map, List.map_map]; rfl
    refine k p _ hp ⟨_, 0, 0, by rw [e], by omega, by omega, fun c hc => ?_⟩
    obtain ⟨i, _, rfl⟩ := List.mem_map.mp hc
    omega

local macro_rules | `(tactic| walk_at "fld_2") => `(tactic| (with_reducible refine we_fldF ?_))
local macro_rules | `(tactic| walk_at "useWe_2") => `(tactic| first | (with_reducible refine we_mt ?_) | (with_reducible refine we_ratQ ?_) | (with_reducible refine we_ratQ1 ?_) | (with_reducible refine we_spn ?_) | fail)
local macro_rules | `(tactic| walk_at "sWe_2") => `(tactic| first
  | ((with_reducible refine we_var (d := ?d) ?hv ?hk); case hv => rfl)
  | (with_reducible first
    | refine we_cint ?_ | refine we_2 ?_ | refine we_cl0 ?_ | refine we_tup ?_ | refine we_1 ?_ | refine we_c2 ?_ | refine we_cbl ?_ | refine we_cnon ?_ | refine we_cty ?_ | refine we_cref ?_
    | refine we_op ?_ | refine we_andV ?_ | refine we_orV ?_ | refine we_notV ?_ | refine we_3 ?_ | refine we_ifx ?_ | refine we_cstr ?_ | refine we_clH ?_)
  | walk_at "fld_2"
  | walk_at "useWe_2")
local macro_rules | `(tactic| walk_at "useW2_2") => `(tactic| first | (with_reducible refine w2_powF ⟨?_, ?_⟩) | fail)
local macro_rules | `(tactic| walk_at "sW2_2") => `(tactic| first
  | (with_reducible first
    | refine w2_add ?_ | refine w2_sub ?_ | refine w2_mul ⟨?_, ?_⟩ | refine w2_fdiv ⟨?_, ?_⟩ | refine w2_mod ⟨?_, ?_⟩ | refine w2_pow ⟨?_, ?_⟩ | refine w2_eqI ?_ | refine w2_neI ?_ | refine w2_lt ?_ | refine w2_le ?_ | refine w2_gt ?_ | refine w2_ge ?_ | refine w2_eqFI ?_ | refine w2_neFI ?_)
  | ((with_reducible refine w2_ixT (d := ?d) ⟨?hv, ?hk⟩); case hv => rfl)
  | ((with_reducible refine w2_ixL (d := ?d) ⟨?hv, ?hk⟩); case hv => rfl)
  | ((with_reducible refine w2_ixM (d := ?d) .head ⟨?hv, ?hk⟩); case hv => rfl)
  | (with_reducible first
    | refine w2_eqIH ?_ | refine w2_neIH ?_ | refine w2_mulH ⟨?_, ?_⟩ | refine w2_addH ?_ | refine w2_subH ?_ | refine w2_isN ?_ | refine w2_notN ?_ | refine w2_isB ?_ | refine w2_notB ?_)
  | walk_at "useW2_2")
local macro_rules | `(tactic| walk_at "sWa_2") => `(tactic| with_reducible first | refine wa_nil ?_ | refine wa_cons ?_)
local macro_rules | `(tactic| walk_at "useWs_2") => `(tactic| first | (with_reducible refine ws_rs0 ?_) | (with_reducible refine ws_rs ?_) | fail)
local macro_rules | `(tactic| walk_at "sWs_2") => `(tactic| first
  | (with_reducible first | refine ws_seq ?_ | refine ws_ret ?_ | refine ws_asg ?_ | refine ws_next ?_ | refine ws_drop ?_ | refine ws_par ?_ | refine ws_par3 ?_ | refine ws_fldN ?_ | refine ws_brk ?_ | refine ws_cont ?_)
  | walk_at "useWs_2")
local macro_rules | `(tactic| walk_at "sWt_2") => `(tactic| with_reducible first | refine wt_test ?_ | refine wt_tr ?_ | refine wt_and ?_ | refine wt_or ?_ | refine wt_not ?_)
local macro_rules | `(tactic| walk_at "useWc_2") => `(tactic| first | (with_reducible refine wc_absI ?_) | fail)
local macro_rules | `(tactic| walk_at "sWc_2") => `(tactic| first
  | (with_reducible first | refine wc_int ?_ | refine wc_abs ?_ | refine wc_min ?_ | refine wc_gcd ?_ | refine wc_isiT .int kit_ii ?_ | refine wc_isiT .int kit_ib ?_ | refine wc_len .lst ?_ | refine wc_len .tup ?_ | refine wc_strI ?_ ?_)
  | walk_at "useWc_2")
local macro_rules | `(tactic| walk_at "sWg_2") => `(tactic| with_reducible first | refine wg_name ?_ | refine wg_subM ?_ | refine wg_tup rfl ?_)
local macro_rules | `(tactic| walk_at "sW1_2") => `(tactic| first | (with_reducible refine w1_neg ?_) | walk_at "useW2_2")
local macro_rules | `(tactic| walk_at "sWgs_2") => `(tactic| with_reducible first | refine wgs_cons ?_ | refine wgs_nil ?_)
local macro_rules | `(tactic| walk_at "use_2") => `(tactic| first | (with_reducible refine use_digit ?_ ?_ (by assumption) fun dg m' d0 d1 hpm => ?_) | fail)
local macro_rules | `(tactic| walk_at "sX_2") => `(tactic| first
  | (with_reducible refine ⟨_, rfl, ?_⟩)
  | (with_reducible refine fld_top (by assumption) ?_) | (with_reducible refine fld_bottom (by assumption) ?_)
  | (with_reducible refine ⟨_, .bl, ?_⟩)
  | ((with_reducible refine ⟨?h, ?_⟩); case h => rfl)
  | (with_reducible refine ⟨_, _, rfl, ?_⟩)
  | (with_reducible refine ⟨_, _, _, rfl, ?_⟩)
  | walk_at "use_2"
  | (with_reducible refine setN_top (by assumption) ?_) | (with_reducible refine setN_bottom (by assumption) ?_)
  | ((with_reducible refine ⟨_, _, _, ?j, _, rfl, rfl, .head, ?h, .head, ?_⟩); case h => rfl)
  | fail)
local macro_rules | `(tactic| walk_at "st_2") => `(tactic| first
  | ((with_reducible show We _ _ _ _ _ _); walk_at "sWe_2")
  | ((with_reducible show W2 _ _ _ _ _ _ _ _); walk_at "sW2_2")
  | ((with_reducible show Wa _ _ _ _ _ _); walk_at "sWa_2")
  | ((with_reducible show Ws _ _ _ _ _ _); walk_at "sWs_2")
  | ((with_reducible show Wt _ _ _ _ _ _); walk_at "sWt_2")
  | ((with_reducible show Wc _ _ _ _ _ _ _); walk_at "sWc_2")
  | ((with_reducible show Wg _ _ _ _ _ _ _); walk_at "sWg_2")
  | ((with_reducible show W1 _ _ _ _ _ _ _); walk_at "sW1_2")
  | ((with_reducible show Wgs _ _ _ _ _ _ _); walk_at "sWgs_2")
  | walk_at "sX_2" | fail)
local macro_rules | `(tactic| walk_at "wif_2") => `(tactic| (with_reducible refine ws_if ?_))
local macro_rules | `(tactic| walk_at "br_2") => `(tactic| ((with_reducible refine ⟨fun hb => ?_, fun hb => ?_⟩) <;> (try simp only [decide_eq_true_eq, decide_eq_false_iff_not, Bool.not_eq_true', Bool.not_eq_false', Bool.and_eq_true, Bool.or_eq_true, reduceCtorEq, List.length_map, Bool.not_true, Bool.not_false, DL.isNon, not_true_eq_false, not_false_eq_true, Classical.not_not, List.all_cons, List.all_nil, id_eq, Bool.and_self, Bool.true_and, decide_true, decide_false] at hb)))
local macro_rules | `(tactic| walk_at "go_2") => `(tactic| repeat' (first | walk_at "st_2" | walk_at "wif_2" | walk_at "br_2" | fail))
local macro_rules | `(tactic| walk_at "gn_2") => `(tactic| repeat' (first | walk_at "st_2" | walk_at "br_2" | fail))
def S_fraction : SpecD := fun ds m K _ => ∃ p m0, ds = [.ref p] ∧ PotM p m0 m ∧ ∀ t b m', Fr 200 t b → PotM p m0 m' → K (pr t b) m'
theorem use_fraction {p : Addr} {m m0 : Mu} {K : KT} {E : Ex → Mu → Prop} (hm : PotM p m0 m) (h : ∀ t b m', Fr 200 t b → PotM p m0 m' → K (pr t b) m') : S_fraction [.ref p] m K E := ⟨p, m0, rfl, hm, h⟩
theorem ok_fraction (T : Txt G C_Ratio C_ZeroBottom C_OutOfBounds C_CarryError) (c__law_digit : Cal G 1 "_law_digit" 2 S_digit []) {f : Addr} {fd : FuncData} (F : L2.Fun G.K "_law_fraction" "_law_fraction" s__law_fraction f fd) (b : L2.Binds G.K fd ["pot"] []) : Fnx G 2 f 1 S_fraction [] := by
  refine fnx_of F sc__law_fraction rfl b .nil rfl (fun cdv A outer s H FF hr tk => ⟨_, (pss_cons (ps_set (i := 1) sc__law_fraction.nd rfl (Or.inl rfl) (pe_cl c__law_digit hr (by decide) tk rfl (pa_cons (pe_var (i := 0) rfl (Or.inl rfl) nd_pot.1 nd_pot.2) (pa_cons pe_int pa_nil)))) (pss_cons (ps_if (pt_cm (os_eqF hr tk) (pe_var (i := 1) rfl (Or.inl rfl) nd_kind.1 nd_kind.2) pe_int (nomark _)) (pss_one (ps_ret (pe_tup (pa_cons pe_int (pa_cons (pe_bin (os_add hr tk) pe_int (pe_cl c__law_digit hr (by decide) tk rfl (pa_cons (pe_var (i := 0) rfl (Or.inl rfl) nd_pot.1 nd_pot.2) (pa_cons pe_int pa_nil)))) pa_nil))))) pss_nil) (pss_cons (ps_if (pt_cm (os_eqF hr tk) (pe_var (i := 1) rfl (Or.inl rfl) nd_kind.1 nd_kind.2) pe_int (nomark _)) (pss_cons (ps_set (i := 2) sc__law_fraction.nd rfl (Or.inl rfl) (pe_bin (os_sub hr tk) (pe_cl c__law_digit hr (by decide) tk rfl (pa_cons (pe_var (i := 0) rfl (Or.inl rfl) nd_pot.1 nd_pot.2) (pa_cons (pe_bin (os_add hr tk) (pe_bin (os_mul hr tk) pe_int (pe_bin (os_powF hr tk) pe_int pe_int)) pe_int) pa_nil))) (pe_bin (os_powF hr tk) pe_int pe_int))) (pss_one (ps_ret (pe_tup (pa_cons (pe_var (i := 2) rfl (Or.inl rfl) nd_top.1 nd_top.2) (pa_cons (pe_bin (os_add hr tk) pe_int (pe_cl c__law_digit hr (by decide) tk rfl (pa_cons (pe_var (i := 0) rfl (Or.inl rfl) nd_pot.1 nd_pot.2) (pa_cons (pe_bin (os_powF hr tk) pe_int pe_int) pa_nil)))) pa_nil)))))) pss_nil) (pss_cons (ps_if (pt_cm (os_eqF hr tk) (pe_var (i := 1) rfl (Or.inl rfl) nd_kind.1 nd_kind.2) pe_int (nomark _)) (pss_cons (ps_set (i := 2) sc__law_fraction.nd rfl (Or.inl rfl) (pe_bin (os_sub hr tk) (pe_cl c__law_digit hr (by decide) tk rfl (pa_cons (pe_var (i := 0) rfl (Or.inl rfl) nd_pot.1 nd_pot.2) (pa_cons (pe_bin (os_add hr tk) (pe_bin (os_mul hr tk) pe_int (pe_bin (os_powF hr tk) pe_int pe_int)) pe_int) pa_nil))) (pe_bin (os_powF hr tk) pe_int pe_int))) (pss_one (ps_ret (pe_tup (pa_cons (pe_var (i := 2) rfl (Or.inl rfl) nd_top.1 nd_top.2) (pa_cons (pe_bin (os_add hr tk) pe_int (pe_cl c__law_digit hr (by decide) tk rfl (pa_cons (pe_var (i := 0) rfl (Or.inl rfl) nd_pot.1 nd_pot.2) (pa_cons (pe_bin (os_powF hr tk) pe_int pe_int) pa_nil)))) pa_nil)))))) pss_nil) (pss_cons (ps_if (pt_cm (os_eqF hr tk) (pe_var (i := 1) rfl (Or.inl rfl) nd_kind.1 nd_kind.2) pe_int (nomark _)) (pss_cons (ps_set (i := 2) sc__law_fraction.nd rfl (Or.inl rfl) (pe_bin (os_sub hr tk) (pe_cl c__law_digit hr (by decide) tk rfl (pa_cons (pe_var (i := 0) rfl (Or.inl rfl) nd_pot.1 nd_pot.2) (pa_cons pe_int pa_nil))) pe_int)) (pss_one (ps_ret (pe_tup (pa_cons (pe_var (i := 2) rfl (Or.inl rfl) nd_top.1 nd_top.2) (pa_cons (pe_bin (os_add hr tk) pe_int (pe_cl c__law_digit hr (by decide) tk rfl (pa_cons (pe_var (i := 0) rfl (Or.inl rfl) nd_pot.1 nd_pot.2) (pa_cons pe_int pa_nil)))) pa_nil)))))) pss_nil) (pss_cons (ps_set (i := 2) sc__law_fraction.nd rfl (Or.inl rfl) (pe_bin (os_sub hr tk) pe_int (pe_cl c__law_digit hr (by decide) tk rfl (pa_cons (pe_var (i := 0) rfl (Or.inl rfl) nd_pot.1 nd_pot.2) (pa_cons pe_int pa_nil))))) (pss_one (ps_ret (pe_tup (pa_cons (pe_var (i := 2) rfl (Or.inl rfl) nd_top.1 nd_top.2) (pa_cons (pe_bin (os_sub hr tk) pe_int (pe_cl c__law_digit hr (by decide) tk rfl (pa_cons (pe_var (i := 0) rfl (Or.inl rfl) nd_pot.1 nd_pot.2) (pa_cons pe_int pa_nil)))) pa_nil))))))))))), ?_⟩)
  rintro ds m K E - ⟨p, m0, rfl, hm, k⟩
  show Ws _ _ _ [some (.ref p), none, none] _ _
  dsimp only [cx_G, cx_K]
  have bg : ∀ x y : Int, 0 ≤ x → x < 2 * 10 ^ Int.toNat 12 + 1 → 0 ≤ y → y < 10 ^ Int.toNat 12 → ∀ m', PotM p m0 m' → K (.tup [.int (x - 10 ^ Int.toNat 12), .int (1 + y)]) m' := fun x y hx hx2 hy hy2 m' hm => by
    rw [e12] at *
    exact k _ _ _ ((fr_small (by omega) (by omega) (by omega)).mono (by decide)) hm
  have bG : ∀ x y : Int, 0 ≤ x → x < 2 * 10 ^ Int.toNat 60 + 1 → 0 ≤ y → y < 10 ^ Int.toNat 60 → ∀ m', PotM p m0 m' → K (.tup [.int (x - 10 ^ Int.toNat 60), .int (1 + y)]) m' := fun x y hx hx2 hy hy2 m' hm => by
    rw [e60] at *
    exact k _ _ _ (fr_big (by omega) (by omega) (by omega)) hm
  have b2 : Bd 2 2 := bd_lit (by decide)
  walk_at "go_2"
  all_goals first
    | exact cp12
    | exact cp60
    | exact bg _ _ (by assumption) (by assumption) (by assumption) (by assumption) _ (by assumption)
    | exact bG _ _ (by assumption) (by assumption) (by assumption) (by assumption) _ (by assumption)
    | exact bd_lit (by decide +kernel)
    | exact (show (0 : Int) < _ by decide +kernel)
    | exact (b2.mulX (bd_lit (n := 300) (by decide +kernel)) (by decide))
    | exact k _ _ _ ((fr_small (by omega) (by omega) (by omega)).mono (by decide)) (by assumption)
def S_handed : SpecD := fun ds m K _ => ∃ p a b m0, ds = [.ref p, pr a b] ∧ Bd 100000 a ∧ Bd 100000 b ∧ PotM p m0 m ∧ ∀ k m', k ≠ 0 → Bd 3 k → PotM p m0 m' → K (pr (a * k) (b * k)) m'
theorem use_handed {p : Addr} {a b : Int} {m m0 : Mu} {K : KT} {E : Ex → Mu → Prop} (ha : Bd 100000 a) (hb : Bd 100000 b) (hm : PotM p m0 m) (h : ∀ k m', k ≠ 0 → Bd 3 k → PotM p m0 m' → K (pr (a * k) (b * k)) m') : S_handed [.ref p, pr a b] m K E := ⟨p, a, b, m0, rfl, ha, hb, hm, h⟩
theorem ok_handed (T : Txt G C_Ratio C_ZeroBottom C_OutOfBounds C_CarryError) (c__law_digit : Cal G 1 "_law_digit" 2 S_digit []) {f : Addr} {fd : FuncData} (F : L2.Fun G.K "_law_handed" "_law_handed" s__law_handed f fd) (b : L2.Binds G.K fd ["pot", "pair"] []) : Fnx G 2 f 2 S_handed [] := by
  refine fnx_of F sc__law_handed rfl b .nil rfl (fun cdv A outer s H FF hr tk => ⟨_, (pss_cons (ps_set (i := 2) sc__law_handed.nd rfl (Or.inl rfl) (pe_bin (os_add hr tk) pe_int (pe_cl c__law_digit hr (by decide) tk rfl (pa_cons (pe_var (i := 0) rfl (Or.inl rfl) nd_pot.1 nd_pot.2) (pa_cons pe_int pa_nil))))) (pss_cons (ps_if (pt_cm (os_eqF hr tk) (pe_cl c__law_digit hr (by decide) tk rfl (pa_cons (pe_var (i := 0) rfl (Or.inl rfl) nd_pot.1 nd_pot.2) (pa_cons pe_int pa_nil))) pe_int (nomark _)) (pss_one (ps_set (i := 2) sc__law_handed.nd rfl (Or.inl rfl) (pe_una (us_neg hr tk) (pe_var (i := 2) rfl (Or.inl rfl) nd_times.1 nd_times.2)))) pss_nil) (pss_one (ps_ret (pe_tup (pa_cons (pe_bin (os_mul hr tk) (pe_ix ix_seq (pe_var (i := 1) rfl (Or.inl rfl) nd_pair.1 nd_pair.2) pe_int (fun _ _ => rfl)) (pe_var (i := 2) rfl (Or.inl rfl) nd_times.1 nd_times.2)) (pa_cons (pe_bin (os_mul hr tk) (pe_ix ix_seq (pe_var (i := 1) rfl (Or.inl rfl) nd_pair.1 nd_pair.2) pe_int (fun _ _ => rfl)) (pe_var (i := 2) rfl (Or.inl rfl) nd_times.1 nd_times.2)) pa_nil))))))), ?_⟩)
  rintro ds m K E - ⟨p, a, b, m0, rfl, ha, hb, hm, k⟩
  show Ws _ _ _ [some (.ref p), some (pr a b), none] _ _
  dsimp only [cx_G, cx_K]
  have b3 : ∀ x : Int, 0 ≤ x → x < 6 → Bd 3 (1 + x) := fun x h0 h1 => by
    unfold Bd
    omega
  walk_at "go_2"
  all_goals first
    | decide
    | exact bd_lit (by decide +kernel)
    | exact ha.mulX (b3 _ ‹_› ‹_›) (by decide)
    | exact hb.mulX (b3 _ ‹_› ‹_›) (by decide)
    | exact ha.mulX (b3 _ ‹_› ‹_›).neg (by decide)
    | exact hb.mulX (b3 _ ‹_› ‹_›).neg (by decide)
    | exact k _ _ (by omega) (b3 _ ‹_› ‹_›) ‹_›
    | exact k _ _ (by omega) (b3 _ ‹_› ‹_›).neg ‹_›
    | skip
abbrev prq (x : Rat) : D := pr x.num (x.den : Int)
def S_lowest : SpecD := fun ds m K _ => ∃ a b, ds = [.int a, .int b] ∧ b ≠ 0 ∧ Bd 1000 b ∧ K (prq (dv a b)) m
theorem use_lowest {a b : Int} {m : Mu} {K : KT} {E : Ex → Mu → Prop} (h1 : b ≠ 0) (h2 : Bd 1000 b) (h : K (prq (dv a b)) m) : S_lowest [.int a, .int b] m K E := ⟨a, b, rfl, h1, h2, h⟩
theorem low_q {a b : Int} (hb : 0 < b) : a.fdiv (gc a b) = (dv a b).num ∧ b.fdiv (gc a b) = ((dv a b).den : Int) := by
  have gp := gc_pos (t := a) (b := b) (by omega)
  have r := rT_dv (t := a) (b := b) (by omega)
  constructor
  · rw [← r.1, fdiv_pos gp]
    unfold rT
    rw [if_neg (by omega)]
  · rw [← r.2, fdiv_pos gp]
    unfold rB
    rw [if_neg (by omega)]
theorem ok_lowest (T : Txt G C_Ratio C_ZeroBottom C_OutOfBounds C_CarryError) {f : Addr} {fd : FuncData} (F : L2.Fun G.K "_law_lowest" "_law_lowest" s__law_lowest f fd) (b : L2.Binds G.K fd ["top", "bottom"] []) : Fnx G 1 f 2 S_lowest [] := by
  refine fnx_of F sc__law_lowest rfl b .nil rfl (fun cdv A outer s H FF hr tk => ⟨_, (pss_cons (ps_if (pt_cm os_lt (pe_var (i := 1) rfl (Or.inl rfl) nd_bottom.1 nd_bottom.2) pe_int (nomark _)) (pss_cons (ps_set (i := 0) sc__law_lowest.nd rfl (Or.inl rfl) (pe_una (us_neg hr tk) (pe_var (i := 0) rfl (Or.inl rfl) nd_top.1 nd_top.2))) (pss_one (ps_set (i := 1) sc__law_lowest.nd rfl (Or.inl rfl) (pe_una (us_neg hr tk) (pe_var (i := 1) rfl (Or.inl rfl) nd_bottom.1 nd_bottom.2))))) pss_nil) (pss_cons (ps_set (i := 2) sc__law_lowest.nd rfl (Or.inl rfl) (pe_cb (cs_absO hr tk) rfl T.n_abs bt_abs (pa_cons (pe_var (i := 0) rfl (Or.inl rfl) nd_top.1 nd_top.2) pa_nil))) (pss_cons (ps_set (i := 3) sc__law_lowest.nd rfl (Or.inl rfl) (pe_var (i := 1) rfl (Or.inl rfl) nd_bottom.1 nd_bottom.2)) (pss_cons (ps_for (passes_of rfl) rfl (pi_range1 rfl T.n_range (pa_cons pe_int pa_nil)) (pg_name (i := 4) sc__law_lowest.nd rfl (Or.inl rfl)) (pss_cons (ps_if (pt_cm (os_eqF hr tk) (pe_var (i := 3) rfl (Or.inl rfl) nd_v.1 nd_v.2) pe_int (nomark _)) (pss_one ps_break) pss_nil) (pss_cons (ps_set (i := 5) sc__law_lowest.nd rfl (Or.inl rfl) (pe_bin os_mod (pe_ct cs_int rfl T.n_int bt_int (pa_cons (pe_var (i := 2) rfl (Or.inl rfl) nd_u.1 nd_u.2) pa_nil)) (pe_var (i := 3) rfl (Or.inl rfl) nd_v.1 nd_v.2))) (pss_cons (ps_set (i := 2) sc__law_lowest.nd rfl (Or.inl rfl) (pe_var (i := 3) rfl (Or.inl rfl) nd_v.1 nd_v.2)) (pss_one (ps_set (i := 3) sc__law_lowest.nd rfl (Or.inl rfl) (pe_var (i := 5) rfl (Or.inl rfl) nd_rest.1 nd_rest.2))))))) (pss_one (ps_ret (pe_tup (pa_cons (pe_bin os_fdiv (pe_var (i := 0) rfl (Or.inl rfl) nd_top.1 nd_top.2) (pe_var (i := 2) rfl (Or.inl rfl) nd_u.1 nd_u.2)) (pa_cons (pe_bin os_fdiv (pe_var (i := 1) rfl (Or.inl rfl) nd_bottom.1 nd_bottom.2) (pe_var (i := 2) rfl (Or.inl rfl) nd_u.1 nd_u.2)) pa_nil))))))))), ?_⟩)
  rintro ds m K E - ⟨a, b, rfl, nb, hb, k⟩
  show Ws _ _ _ [some (.int a), some (.int b), none, none, none, none] _ _
  dsimp only [cx_G, cx_K]
  walk_at "gn_2"
  refine Ws.cut (fun r' m' => m' = m ∧ ∃ a' b', 0 < b' ∧ Bd 1000 b' ∧ dv a' b' = dv a b ∧ r' = [some (.int a'), some (.int b'), none, none, none, none]) ?_ ?_
  · walk_at "go_2"
    · exact ⟨_, _, by omega, hb.neg, Rat.neg_divInt_neg a b, rfl⟩
    · exact ⟨_, _, by omega, hb, rfl, rfl⟩
  · rintro r' m' ⟨rfl, a', b', hp, hb', e, rfl⟩
    rw [← e] at k
    have gp := gc_pos (t := a') (b := b') (by omega)
    have gb : Bd 1000 (gc a' b') := gc_bd (by omega) hb'
    have q := low_q (a := a') hp
    have dx : ∀ z, CDivX z (gc a' b') := fun z => gb.divX (by omega) (by decide)
    walk_at "go_2"
    refine ws_range1 ?_
    walk_at "go_2"
    refine ⟨1500, fun i r' m'' => m'' = m' ∧ ∃ (u v : Nat) (o1 o2 : Option D), r' = [some (.int a'), some (.int b'), some (.int u), some (.int v), o1, o2] ∧ Nat.gcd u v = Nat.gcd a'.natAbs b'.natAbs ∧ EuF b'.natAbs i u v, rfl, by decide, ?_, ?_, ?_⟩
    · have eb : b' = ((b'.natAbs : Nat) : Int) := by omega
      refine ⟨rfl, a'.natAbs, b'.natAbs, _, _, by rw [← eb]; rfl, rfl, .inl ⟨rfl, rfl⟩⟩
    · rintro n r' m'' hn ⟨rfl, u, v, o1, o2, rfl, hg, he⟩
      have gz : v = 0 → (u : Int) = gc a' b' := fun h => by
        rw [h, Nat.gcd_zero_right] at hg
        rw [hg]
        rfl
      have uz : (v : Int) = 0 → (u : Int) = gc a' b' := fun h => gz (Int.natCast_eq_zero.mp h)
      walk_at "go_2"
      all_goals first
        | (rw [uz ‹_›]; exact dx _)
        | (rw [uz ‹_›, q.1, q.2]; exact k)
        | exact ‹¬ _›
        | skip
      have hy : 0 < v := by omega
      have e : ((u : Int).fmod (v : Int)) = ((u % v : Nat) : Int) := by
        rw [Int.fmod_eq_emod_of_nonneg _ (by omega)]
        exact (Int.natCast_emod u v).symm
      rw [e]
      refine ⟨v, u % v, _, _, rfl, ?_, he.step hy⟩
      rw [← hg, Nat.gcd_comm u v, Nat.gcd_rec v u, Nat.gcd_comm]
    · rintro r' m'' ⟨rfl, u, v, o1, o2, rfl, hg, he⟩
      exact (he.early hb').elim
end
end K01
set_option Elab.async false
set_option linter.all false
set_option maxRecDepth 100000
set_option maxHeartbeats 4000000
namespace K01
open PySem PySem.Spec L2 DL
open PyProof.Rows hiding St
/-! one step, by the goal's head -/

/-! Ratio and Span by numbers: their promises used -/

section
variable {G : Gx} {C_Ratio C_ZeroBottom C_OutOfBounds C_CarryError : Addr}
def S_plus : SpecD := fun ds m K _ => ∃ a b c d, ds = [pr a b, pr c d] ∧ b ≠ 0 ∧ d ≠ 0 ∧ Bd 499 a ∧ Bd 499 b ∧ Bd 499 c ∧ Bd 499 d ∧ K (prq (dv a b + dv c d)) m
def S_times : SpecD := fun ds m K _ => ∃ a b c d, ds = [pr a b, pr c d] ∧ b ≠ 0 ∧ d ≠ 0 ∧ Bd 499 a ∧ Bd 499 b ∧ Bd 499 c ∧ Bd 499 d ∧ K (prq (dv a b * dv c d)) m
local macro_rules | `(tactic| walk_at "fld_1") => `(tactic| (with_reducible refine we_fldF ?_))
local macro_rules | `(tactic| walk_at "useWe_1") => `(tactic| first | (with_reducible refine we_mt ?_) | (with_reducible refine we_ratQ ?_) | (with_reducible refine we_ratQ1 ?_) | (with_reducible refine we_spn ?_) | fail)
local macro_rules | `(tactic| walk_at "sWe_1") => `(tactic| first
  | ((with_reducible refine we_var (d := ?d) ?hv ?hk); case hv => rfl)
  | (with_reducible first
    | refine we_cint ?_ | refine we_2 ?_ | refine we_cl0 ?_ | refine we_tup ?_ | refine we_1 ?_ | refine we_c2 ?_ | refine we_cbl ?_ | refine we_cnon ?_ | refine we_cty ?_ | refine we_cref ?_
    | refine we_op ?_ | refine we_andV ?_ | refine we_orV ?_ | refine we_notV ?_ | refine we_3 ?_ | refine we_ifx ?_ | refine we_cstr ?_ | refine we_clH ?_)
  | walk_at "fld_1"
  | walk_at "useWe_1")
local macro_rules | `(tactic| walk_at "useW2_1") => `(tactic| first
  | (with_reducible refine w2_addO (by assumption) (by decide) .fixed .fixed ?_) | (with_reducible refine w2_subO (by assumption) (by decide) .fixed .fixed ?_) | (with_reducible refine w2_mulO (by assumption) (by decide) .fixed .fixed ?_) | (with_reducible refine w1_negO (by assumption) (by decide) .fixed ?_) | (with_reducible refine w2_inO (by assumption) (by decide) .fixed ?_) | fail)
local macro_rules | `(tactic| walk_at "sW2_1") => `(tactic| first
  | (with_reducible first
    | refine w2_add ?_ | refine w2_sub ?_ | refine w2_mul ⟨?_, ?_⟩ | refine w2_fdiv ⟨?_, ?_⟩ | refine w2_mod ⟨?_, ?_⟩ | refine w2_pow ⟨?_, ?_⟩ | refine w2_eqI ?_ | refine w2_neI ?_ | refine w2_lt ?_ | refine w2_le ?_ | refine w2_gt ?_ | refine w2_ge ?_ | refine w2_eqFI ?_ | refine w2_neFI ?_)
  | ((with_reducible refine w2_ixT (d := ?d) ⟨?hv, ?hk⟩); case hv => rfl)
  | ((with_reducible refine w2_ixL (d := ?d) ⟨?hv, ?hk⟩); case hv => rfl)
  | ((with_reducible refine w2_ixM (d := ?d) .head ⟨?hv, ?hk⟩); case hv => rfl)
  | (with_reducible first
    | refine w2_eqIH ?_ | refine w2_neIH ?_ | refine w2_mulH ⟨?_, ?_⟩ | refine w2_addH ?_ | refine w2_subH ?_ | refine w2_isN ?_ | refine w2_notN ?_ | refine w2_isB ?_ | refine w2_notB ?_)
  | walk_at "useW2_1")
local macro_rules | `(tactic| walk_at "sWa_1") => `(tactic| with_reducible first | refine wa_nil ?_ | refine wa_cons ?_)
local macro_rules | `(tactic| walk_at "useWs_1") => `(tactic| first | (with_reducible refine ws_rs0 ?_) | (with_reducible refine ws_rs ?_) | fail)
local macro_rules | `(tactic| walk_at "sWs_1") => `(tactic| first
  | (with_reducible first | refine ws_seq ?_ | refine ws_ret ?_ | refine ws_asg ?_ | refine ws_next ?_ | refine ws_drop ?_ | refine ws_par ?_ | refine ws_par3 ?_ | refine ws_fldN ?_ | refine ws_brk ?_ | refine ws_cont ?_)
  | walk_at "useWs_1")
local macro_rules | `(tactic| walk_at "sWt_1") => `(tactic| with_reducible first | refine wt_test ?_ | refine wt_tr ?_ | refine wt_and ?_ | refine wt_or ?_ | refine wt_not ?_)
local macro_rules | `(tactic| walk_at "useWc_1") => `(tactic| fail)
local macro_rules | `(tactic| walk_at "sWc_1") => `(tactic| first
  | (with_reducible first | refine wc_int ?_ | refine wc_abs ?_ | refine wc_min ?_ | refine wc_gcd ?_ | refine wc_isiT .int kit_ii ?_ | refine wc_isiT .int kit_ib ?_ | refine wc_len .lst ?_ | refine wc_len .tup ?_ | refine wc_strI ?_ ?_)
  | walk_at "useWc_1")
local macro_rules | `(tactic| walk_at "sWg_1") => `(tactic| with_reducible first | refine wg_name ?_ | refine wg_subM ?_ | refine wg_tup rfl ?_)
local macro_rules | `(tactic| walk_at "sW1_1") => `(tactic| first | (with_reducible refine w1_neg ?_) | walk_at "useW2_1")
local macro_rules | `(tactic| walk_at "sWgs_1") => `(tactic| with_reducible first | refine wgs_cons ?_ | refine wgs_nil ?_)
local macro_rules | `(tactic| walk_at "use_1") => `(tactic| first | (with_reducible refine use_lowest ?_ ?_ ?_) | fail)
local macro_rules | `(tactic| walk_at "sX_1") => `(tactic| first
  | (with_reducible refine ⟨_, rfl, ?_⟩)
  | (with_reducible refine fld_top (by assumption) ?_) | (with_reducible refine fld_bottom (by assumption) ?_)
  | (with_reducible refine ⟨_, .bl, ?_⟩)
  | ((with_reducible refine ⟨?h, ?_⟩); case h => rfl)
  | (with_reducible refine ⟨_, _, rfl, ?_⟩)
  | (with_reducible refine ⟨_, _, _, rfl, ?_⟩)
  | walk_at "use_1"
  | (with_reducible refine setN_top (by assumption) ?_) | (with_reducible refine setN_bottom (by assumption) ?_)
  | ((with_reducible refine ⟨_, _, _, ?j, _, rfl, rfl, .head, ?h, .head, ?_⟩); case h => rfl)
  | fail)
local macro_rules | `(tactic| walk_at "st_1") => `(tactic| first
  | ((with_reducible show We _ _ _ _ _ _); walk_at "sWe_1")
  | ((with_reducible show W2 _ _ _ _ _ _ _ _); walk_at "sW2_1")
  | ((with_reducible show Wa _ _ _ _ _ _); walk_at "sWa_1")
  | ((with_reducible show Ws _ _ _ _ _ _); walk_at "sWs_1")
  | ((with_reducible show Wt _ _ _ _ _ _); walk_at "sWt_1")
  | ((with_reducible show Wc _ _ _ _ _ _ _); walk_at "sWc_1")
  | ((with_reducible show Wg _ _ _ _ _ _ _); walk_at "sWg_1")
  | ((with_reducible show W1 _ _ _ _ _ _ _); walk_at "sW1_1")
  | ((with_reducible show Wgs _ _ _ _ _ _ _); walk_at "sWgs_1")
  | walk_at "sX_1" | fail)
local macro_rules | `(tactic| walk_at "wif_1") => `(tactic| (with_reducible refine ws_if ?_))
local macro_rules | `(tactic| walk_at "br_1") => `(tactic| ((with_reducible refine ⟨fun hb => ?_, fun hb => ?_⟩) <;> (try simp only [decide_eq_true_eq, decide_eq_false_iff_not, Bool.not_eq_true', Bool.not_eq_false', Bool.and_eq_true, Bool.or_eq_true, reduceCtorEq, List.length_map, Bool.not_true, Bool.not_false, DL.isNon, not_true_eq_false, not_false_eq_true, Classical.not_not, List.all_cons, List.all_nil, id_eq, Bool.and_self, Bool.true_and, decide_true, decide_false] at hb)))
local macro_rules | `(tactic| walk_at "go_1") => `(tactic| repeat' (first | walk_at "st_1" | walk_at "wif_1" | walk_at "br_1" | fail))
theorem ok_plus (T : Txt G C_Ratio C_ZeroBottom C_OutOfBounds C_CarryError) (c__law_lowest : Cal G 1 "_law_lowest" 2 S_lowest []) {f : Addr} {fd : FuncData} (F : L2.Fun G.K "_law_plus" "_law_plus" s__law_plus f fd) (b : L2.Binds G.K fd ["a", "b"] []) : Fnx G 2 f 2 S_plus [] := by
  refine fnx_of F sc__law_plus rfl b .nil rfl (fun cdv A outer s H FF hr tk => ⟨_, (pss_one (ps_ret (pe_cl c__law_lowest hr (by decide) tk rfl (pa_cons (pe_bin (os_add hr tk) (pe_bin (os_mul hr tk) (pe_ix ix_seq (pe_var (i := 0) rfl (Or.inl rfl) nd_a.1 nd_a.2) pe_int (fun _ _ => rfl)) (pe_ix ix_seq (pe_var (i := 1) rfl (Or.inl rfl) nd_b.1 nd_b.2) pe_int (fun _ _ => rfl))) (pe_bin (os_mul hr tk) (pe_ix ix_seq (pe_var (i := 1) rfl (Or.inl rfl) nd_b.1 nd_b.2) pe_int (fun _ _ => rfl)) (pe_ix ix_seq (pe_var (i := 0) rfl (Or.inl rfl) nd_a.1 nd_a.2) pe_int (fun _ _ => rfl)))) (pa_cons (pe_bin (os_mul hr tk) (pe_ix ix_seq (pe_var (i := 0) rfl (Or.inl rfl) nd_a.1 nd_a.2) pe_int (fun _ _ => rfl)) (pe_ix ix_seq (pe_var (i := 1) rfl (Or.inl rfl) nd_b.1 nd_b.2) pe_int (fun _ _ => rfl))) pa_nil))))), ?_⟩)
  rintro ds m K E - ⟨a, b, c, d, rfl, nb, nd, ba, bb, bc, bd, k⟩
  show Ws _ _ _ [some (pr a b), some (pr c d)] _ _
  dsimp only [cx_G, cx_K]
  rw [add_dv nb nd] at k
  walk_at "go_1"
  all_goals first
    | exact ba.mulX bd (by decide)
    | exact bc.mulX bb (by decide)
    | exact bb.mulX bd (by decide)
    | exact Int.mul_ne_zero nb nd
    | exact (bb.mul bd).mono (by decide)
    | exact k
theorem ok_times (T : Txt G C_Ratio C_ZeroBottom C_OutOfBounds C_CarryError) (c__law_lowest : Cal G 1 "_law_lowest" 2 S_lowest []) {f : Addr} {fd : FuncData} (F : L2.Fun G.K "_law_times" "_law_times" s__law_times f fd) (b : L2.Binds G.K fd ["a", "b"] []) : Fnx G 2 f 2 S_times [] := by
  refine fnx_of F sc__law_times rfl b .nil rfl (fun cdv A outer s H FF hr tk => ⟨_, (pss_one (ps_ret (pe_cl c__law_lowest hr (by decide) tk rfl (pa_cons (pe_bin (os_mul hr tk) (pe_ix ix_seq (pe_var (i := 0) rfl (Or.inl rfl) nd_a.1 nd_a.2) pe_int (fun _ _ => rfl)) (pe_ix ix_seq (pe_var (i := 1) rfl (Or.inl rfl) nd_b.1 nd_b.2) pe_int (fun _ _ => rfl))) (pa_cons (pe_bin (os_mul hr tk) (pe_ix ix_seq (pe_var (i := 0) rfl (Or.inl rfl) nd_a.1 nd_a.2) pe_int (fun _ _ => rfl)) (pe_ix ix_seq (pe_var (i := 1) rfl (Or.inl rfl) nd_b.1 nd_b.2) pe_int (fun _ _ => rfl))) pa_nil))))), ?_⟩)
  rintro ds m K E - ⟨a, b, c, d, rfl, nb, nd, ba, bb, bc, bd, k⟩
  show Ws _ _ _ [some (pr a b), some (pr c d)] _ _
  dsimp only [cx_G, cx_K]
  rw [mul_dv] at k
  walk_at "go_1"
  all_goals first
    | exact ba.mulX bc (by decide)
    | exact bb.mulX bd (by decide)
    | exact Int.mul_ne_zero nb nd
    | exact (bb.mul bd).mono (by decide)
    | exact k
theorem use_plusQ {x y : Rat} {m : Mu} {K : KT} {E : Ex → Mu → Prop} (hx : Qb 240 x) (hy : Qb 240 y) (k : K (prq (x + y)) m) : S_plus [prq x, prq y] m K E :=
  ⟨_, _, _, _, rfl, den_ne x, den_ne y, hx.t.mono (by decide), hx.b.mono (by decide), hy.t.mono (by decide), hy.b.mono (by decide), by rw [dv_self, dv_self]; exact k⟩
theorem use_plusN {x y : Rat} {m : Mu} {K : KT} {E : Ex → Mu → Prop} (hx : Qb 240 x) (hy : Qb 240 y) (k : K (prq (x - y)) m) : S_plus [prq x, pr (-y.num) (y.den : Int)] m K E :=
  ⟨_, _, _, _, rfl, den_ne x, den_ne y, hx.t.mono (by decide), hx.b.mono (by decide), (hy.t.mono (by decide)).neg, hy.b.mono (by decide), by rw [dv_self, ← neg_dv, dv_self, ← Rat.sub_eq_add_neg]; exact k⟩
theorem use_timesQ {x y : Rat} {m : Mu} {K : KT} {E : Ex → Mu → Prop} (hx : Qb 240 x) (hy : Qb 240 y) (k : K (prq (x * y)) m) : S_times [prq x, prq y] m K E :=
  ⟨_, _, _, _, rfl, den_ne x, den_ne y, hx.t.mono (by decide), hx.b.mono (by decide), hy.t.mono (by decide), hy.b.mono (by decide), by rw [dv_self, dv_self]; exact k⟩
theorem use_timesD {x y : Rat} {m : Mu} {K : KT} {E : Ex → Mu → Prop} (hx : Qb 240 x) (hy : Qb 240 y) (n : ¬ y.num = 0) (k : K (prq (x / y)) m) : S_times [prq x, pr (y.den : Int) y.num] m K E :=
  ⟨_, _, _, _, rfl, den_ne x, n, hx.t.mono (by decide), hx.b.mono (by decide), hy.b.mono (by decide), hy.t.mono (by decide), by rw [dv_self, ← inv_dv, dv_self, ← Rat.div_def]; exact k⟩
def S_is (C : Addr) : SpecD := fun ds m K _ => ∃ x a b, ds = [rq C x, pr a b] ∧ x.num = a ∧ (x.den : Int) = b ∧ K (.bl true) m
theorem use_is {C : Addr} {x : Rat} {a b : Int} {m : Mu} {K : KT} {E : Ex → Mu → Prop} (h1 : x.num = a) (h2 : (x.den : Int) = b) (k : K (.bl true) m) : S_is C [rq C x, pr a b] m K E := ⟨x, a, b, rfl, h1, h2, k⟩
local macro_rules | `(tactic| walk_at "fld_2") => `(tactic| (with_reducible refine we_fldF ?_))
local macro_rules | `(tactic| walk_at "useWe_2") => `(tactic| first | (with_reducible refine we_mt ?_) | (with_reducible refine we_ratQ ?_) | (with_reducible refine we_ratQ1 ?_) | (with_reducible refine we_spn ?_) | fail)
local macro_rules | `(tactic| walk_at "sWe_2") => `(tactic| first
  | ((with_reducible refine we_var (d := ?d) ?hv ?hk); case hv => rfl)
  | (with_reducible first
    | refine we_cint ?_ | refine we_2 ?_ | refine we_cl0 ?_ | refine we_tup ?_ | refine we_1 ?_ | refine we_c2 ?_ | refine we_cbl ?_ | refine we_cnon ?_ | refine we_cty ?_ | refine we_cref ?_
    | refine we_op ?_ | refine we_andV ?_ | refine we_orV ?_ | refine we_notV ?_ | refine we_3 ?_ | refine we_ifx ?_ | refine we_cstr ?_ | refine we_clH ?_)
  | walk_at "fld_2"
  | walk_at "useWe_2")
local macro_rules | `(tactic| walk_at "useW2_2") => `(tactic| first
  | (with_reducible refine w2_addO (by assumption) (by decide) .fixed .fixed ?_) | (with_reducible refine w2_subO (by assumption) (by decide) .fixed .fixed ?_) | (with_reducible refine w2_mulO (by assumption) (by decide) .fixed .fixed ?_) | (with_reducible refine w1_negO (by assumption) (by decide) .fixed ?_) | (with_reducible refine w2_inO (by assumption) (by decide) .fixed ?_) | fail)
local macro_rules | `(tactic| walk_at "sW2_2") => `(tactic| first
  | (with_reducible first
    | refine w2_add ?_ | refine w2_sub ?_ | refine w2_mul ⟨?_, ?_⟩ | refine w2_fdiv ⟨?_, ?_⟩ | refine w2_mod ⟨?_, ?_⟩ | refine w2_pow ⟨?_, ?_⟩ | refine w2_eqI ?_ | refine w2_neI ?_ | refine w2_lt ?_ | refine w2_le ?_ | refine w2_gt ?_ | refine w2_ge ?_ | refine w2_eqFI ?_ | refine w2_neFI ?_)
  | ((with_reducible refine w2_ixT (d := ?d) ⟨?hv, ?hk⟩); case hv => rfl)
  | ((with_reducible refine w2_ixL (d := ?d) ⟨?hv, ?hk⟩); case hv => rfl)
  | ((with_reducible refine w2_ixM (d := ?d) .head ⟨?hv, ?hk⟩); case hv => rfl)
  | (with_reducible first
    | refine w2_eqIH ?_ | refine w2_neIH ?_ | refine w2_mulH ⟨?_, ?_⟩ | refine w2_addH ?_ | refine w2_subH ?_ | refine w2_isN ?_ | refine w2_notN ?_ | refine w2_isB ?_ | refine w2_notB ?_)
  | walk_at "useW2_2")
local macro_rules | `(tactic| walk_at "sWa_2") => `(tactic| with_reducible first | refine wa_nil ?_ | refine wa_cons ?_)
local macro_rules | `(tactic| walk_at "useWs_2") => `(tactic| first | (with_reducible refine ws_rs0 ?_) | (with_reducible refine ws_rs ?_) | fail)
local macro_rules | `(tactic| walk_at "sWs_2") => `(tactic| first
  | (with_reducible first | refine ws_seq ?_ | refine ws_ret ?_ | refine ws_asg ?_ | refine ws_next ?_ | refine ws_drop ?_ | refine ws_par ?_ | refine ws_par3 ?_ | refine ws_fldN ?_ | refine ws_brk ?_ | refine ws_cont ?_)
  | walk_at "useWs_2")
local macro_rules | `(tactic| walk_at "sWt_2") => `(tactic| with_reducible first | refine wt_test ?_ | refine wt_tr ?_ | refine wt_and ?_ | refine wt_or ?_ | refine wt_not ?_)
local macro_rules | `(tactic| walk_at "useWc_2") => `(tactic| with_reducible refine wc_isiC (.ins (by assumption)) (by assumption) ?_)
local macro_rules | `(tactic| walk_at "sWc_2") => `(tactic| first
  | (with_reducible first | refine wc_int ?_ | refine wc_abs ?_ | refine wc_min ?_ | refine wc_gcd ?_ | refine wc_isiT .int kit_ii ?_ | refine wc_isiT .int kit_ib ?_ | refine wc_len .lst ?_ | refine wc_len .tup ?_ | refine wc_strI ?_ ?_)
  | walk_at "useWc_2")
local macro_rules | `(tactic| walk_at "sWg_2") => `(tactic| with_reducible first | refine wg_name ?_ | refine wg_subM ?_ | refine wg_tup rfl ?_)
local macro_rules | `(tactic| walk_at "sW1_2") => `(tactic| first | (with_reducible refine w1_neg ?_) | walk_at "useW2_2")
local macro_rules | `(tactic| walk_at "sWgs_2") => `(tactic| with_reducible first | refine wgs_cons ?_ | refine wgs_nil ?_)
local macro_rules | `(tactic| walk_at "use_2") => `(tactic| fail)
local macro_rules | `(tactic| walk_at "sX_2") => `(tactic| first
  | (with_reducible refine ⟨_, rfl, ?_⟩)
  | (with_reducible refine fld_top (by assumption) ?_) | (with_reducible refine fld_bottom (by assumption) ?_)
  | (with_reducible refine ⟨_, .bl, ?_⟩)
  | ((with_reducible refine ⟨?h, ?_⟩); case h => rfl)
  | (with_reducible refine ⟨_, _, rfl, ?_⟩)
  | (with_reducible refine ⟨_, _, _, rfl, ?_⟩)
  | walk_at "use_2"
  | (with_reducible refine setN_top (by assumption) ?_) | (with_reducible refine setN_bottom (by assumption) ?_)
  | ((with_reducible refine ⟨_, _, _, ?j, _, rfl, rfl, .head, ?h, .head, ?_⟩); case h => rfl)
  | fail)
local macro_rules | `(tactic| walk_at "st_2") => `(tactic| first
  | ((with_reducible show We _ _ _ _ _ _); walk_at "sWe_2")
  | ((with_reducible show W2 _ _ _ _ _ _ _ _); walk_at "sW2_2")
  | ((with_reducible show Wa _ _ _ _ _ _); walk_at "sWa_2")
  | ((with_reducible show Ws _ _ _ _ _ _); walk_at "sWs_2")
  | ((with_reducible show Wt _ _ _ _ _ _); walk_at "sWt_2")
  | ((with_reducible show Wc _ _ _ _ _ _ _); walk_at "sWc_2")
  | ((with_reducible show Wg _ _ _ _ _ _ _); walk_at "sWg_2")
  | ((with_reducible show W1 _ _ _ _ _ _ _); walk_at "sW1_2")
  | ((with_reducible show Wgs _ _ _ _ _ _ _); walk_at "sWgs_2")
  | walk_at "sX_2" | fail)
local macro_rules | `(tactic| walk_at "wif_2") => `(tactic| (with_reducible refine ws_if ?_))
local macro_rules | `(tactic| walk_at "br_2") => `(tactic| ((with_reducible refine ⟨fun hb => ?_, fun hb => ?_⟩) <;> (try simp only [decide_eq_true_eq, decide_eq_false_iff_not, Bool.not_eq_true', Bool.not_eq_false', Bool.and_eq_true, Bool.or_eq_true, reduceCtorEq, List.length_map, Bool.not_true, Bool.not_false, DL.isNon, not_true_eq_false, not_false_eq_true, Classical.not_not, List.all_cons, List.all_nil, id_eq, Bool.and_self, Bool.true_and, decide_true, decide_false] at hb)))
local macro_rules | `(tactic| walk_at "go_2") => `(tactic| repeat' (first | walk_at "st_2" | walk_at "wif_2" | walk_at "br_2" | fail))
theorem ok_is (T : Txt G C_Ratio C_ZeroBottom C_OutOfBounds C_CarryError) {f : Addr} {fd : FuncData} (F : L2.Fun G.K "_law_is" "_law_is" s__law_is f fd) (b : L2.Binds G.K fd ["told", "pair"] []) : Fnx G 1 f 2 (S_is C_Ratio) [] := by
  refine fnx_of F sc__law_is rfl b .nil rfl (fun cdv A outer s H FF hr tk => ⟨_, (pss_cons (ps_if (pt_not (pt_tr (pe_cb cs_isi rfl T.n_isinstance bt_isinstance (pa_cons (pe_var (i := 0) rfl (Or.inl rfl) nd_told.1 nd_told.2) (pa_cons (pe_glob (v := .ref C_Ratio) rfl T.mg_Ratio rfl) pa_nil))))) (pss_one (ps_ret pe_bl)) pss_nil) (pss_cons (ps_if (PW.pt (pw_or (pt_not (pt_tr (pe_cb cs_isi rfl T.n_isinstance bt_isinstance (pa_cons (pe_fld (pe_var (i := 0) rfl (Or.inl rfl) nd_told.1 nd_told.2) rfl) (pa_cons (pe_bltn (v := .ty "int") rfl T.n_int bt_int rfl) pa_nil))))) (pw_or1 (pt_tr (pe_cb cs_isi rfl T.n_isinstance bt_isinstance (pa_cons (pe_fld (pe_var (i := 0) rfl (Or.inl rfl) nd_told.1 nd_told.2) rfl) (pa_cons (pe_bltn (v := .ty "bool") rfl T.n_bool bt_bool rfl) pa_nil))))))) (pss_one (ps_ret pe_bl)) pss_nil) (pss_cons (ps_if (PW.pt (pw_or (pt_not (pt_tr (pe_cb cs_isi rfl T.n_isinstance bt_isinstance (pa_cons (pe_fld (pe_var (i := 0) rfl (Or.inl rfl) nd_told.1 nd_told.2) rfl) (pa_cons (pe_bltn (v := .ty "int") rfl T.n_int bt_int rfl) pa_nil))))) (pw_or1 (pt_tr (pe_cb cs_isi rfl T.n_isinstance bt_isinstance (pa_cons (pe_fld (pe_var (i := 0) rfl (Or.inl rfl) nd_told.1 nd_told.2) rfl) (pa_cons (pe_bltn (v := .ty "bool") rfl T.n_bool bt_bool rfl) pa_nil))))))) (pss_one (ps_ret pe_bl)) pss_nil) (pss_one (ps_ret (pe_and (pe_cm (os_eqF hr tk) (pe_fld (pe_var (i := 0) rfl (Or.inl rfl) nd_told.1 nd_told.2) rfl) (pe_ix ix_seq (pe_var (i := 1) rfl (Or.inl rfl) nd_pair.1 nd_pair.2) pe_int (fun _ _ => rfl)) (nomark _)) (pe_one (pe_cm (os_eqF hr tk) (pe_fld (pe_var (i := 0) rfl (Or.inl rfl) nd_told.1 nd_told.2) rfl) (pe_ix ix_seq (pe_var (i := 1) rfl (Or.inl rfl) nd_pair.1 nd_pair.2) pe_int (fun _ _ => rfl)) (nomark _))))))))), ?_⟩)
  rintro ds m K E - ⟨x, a, b, rfl, e1, e2, k⟩
  show Ws _ _ _ [some (rq C_Ratio x), some (pr a b)] _ _
  dsimp only [cx_G, cx_K]
  have R := T.R_Ratio
  have RI := R.ins
  have iR := T.is_Ratio_Ratio
  walk_at "go_2"
  all_goals first
    | exact absurd e1 ‹_›
    | (rw [decide_eq_true e2]; exact k)
    | skip
local macro_rules | `(tactic| walk_at "fld_3") => `(tactic| (with_reducible refine we_fldF ?_))
local macro_rules | `(tactic| walk_at "useWe_3") => `(tactic| first | (with_reducible refine we_ratZ ?_) | (with_reducible refine we_mt ?_) | (with_reducible refine we_xf (by assumption) (by assumption) ?_) | fail)
local macro_rules | `(tactic| walk_at "sWe_3") => `(tactic| first
  | ((with_reducible refine we_var (d := ?d) ?hv ?hk); case hv => rfl)
  | (with_reducible first
    | refine we_cint ?_ | refine we_2 ?_ | refine we_cl0 ?_ | refine we_tup ?_ | refine we_1 ?_ | refine we_c2 ?_ | refine we_cbl ?_ | refine we_cnon ?_ | refine we_cty ?_ | refine we_cref ?_
    | refine we_op ?_ | refine we_andV ?_ | refine we_orV ?_ | refine we_notV ?_ | refine we_3 ?_ | refine we_ifx ?_ | refine we_cstr ?_ | refine we_clH ?_)
  | walk_at "fld_3"
  | walk_at "useWe_3")
local macro_rules | `(tactic| walk_at "useW2_3") => `(tactic| first | (with_reducible refine w2_eqHFI ?_) | fail)
local macro_rules | `(tactic| walk_at "sW2_3") => `(tactic| first
  | (with_reducible first
    | refine w2_add ?_ | refine w2_sub ?_ | refine w2_mul ⟨?_, ?_⟩ | refine w2_fdiv ⟨?_, ?_⟩ | refine w2_mod ⟨?_, ?_⟩ | refine w2_pow ⟨?_, ?_⟩ | refine w2_eqI ?_ | refine w2_neI ?_ | refine w2_lt ?_ | refine w2_le ?_ | refine w2_gt ?_ | refine w2_ge ?_ | refine w2_eqFI ?_ | refine w2_neFI ?_)
  | ((with_reducible refine w2_ixT (d := ?d) ⟨?hv, ?hk⟩); case hv => rfl)
  | ((with_reducible refine w2_ixL (d := ?d) ⟨?hv, ?hk⟩); case hv => rfl)
  | ((with_reducible refine w2_ixM (d := ?d) .head ⟨?hv, ?hk⟩); case hv => rfl)
  | (with_reducible first
    | refine w2_eqIH ?_ | refine w2_neIH ?_ | refine w2_mulH ⟨?_, ?_⟩ | refine w2_addH ?_ | refine w2_subH ?_ | refine w2_isN ?_ | refine w2_notN ?_ | refine w2_isB ?_ | refine w2_notB ?_)
  | walk_at "useW2_3")
local macro_rules | `(tactic| walk_at "sWa_3") => `(tactic| with_reducible first | refine wa_nil ?_ | refine wa_cons ?_)
local macro_rules | `(tactic| walk_at "useWs_3") => `(tactic| first | (with_reducible refine ws_rs0 ?_) | (with_reducible refine ws_rs ?_) | fail)
local macro_rules | `(tactic| walk_at "sWs_3") => `(tactic| first
  | (with_reducible first | refine ws_seq ?_ | refine ws_ret ?_ | refine ws_asg ?_ | refine ws_next ?_ | refine ws_drop ?_ | refine ws_par ?_ | refine ws_par3 ?_ | refine ws_fldN ?_ | refine ws_brk ?_ | refine ws_cont ?_)
  | walk_at "useWs_3")
local macro_rules | `(tactic| walk_at "sWt_3") => `(tactic| with_reducible first | refine wt_test ?_ | refine wt_tr ?_ | refine wt_and ?_ | refine wt_or ?_ | refine wt_not ?_)
local macro_rules | `(tactic| walk_at "useWc_3") => `(tactic| first | (with_reducible refine wc_isEC (by assumption) (by assumption) ?_) | (with_reducible refine wc_isET (by assumption) (by assumption) ?_) | fail)
local macro_rules | `(tactic| walk_at "sWc_3") => `(tactic| first
  | (with_reducible first | refine wc_int ?_ | refine wc_abs ?_ | refine wc_min ?_ | refine wc_gcd ?_ | refine wc_isiT .int kit_ii ?_ | refine wc_isiT .int kit_ib ?_ | refine wc_len .lst ?_ | refine wc_len .tup ?_ | refine wc_strI ?_ ?_)
  | walk_at "useWc_3")
local macro_rules | `(tactic| walk_at "sWg_3") => `(tactic| with_reducible first | refine wg_name ?_ | refine wg_subM ?_ | refine wg_tup rfl ?_)
local macro_rules | `(tactic| walk_at "sW1_3") => `(tactic| first | (with_reducible refine w1_neg ?_) | walk_at "useW2_3")
local macro_rules | `(tactic| walk_at "sWgs_3") => `(tactic| with_reducible first | refine wgs_cons ?_ | refine wgs_nil ?_)
local macro_rules | `(tactic| walk_at "use_3") => `(tactic| fail)
local macro_rules | `(tactic| walk_at "sX_3") => `(tactic| first
  | (with_reducible refine ⟨_, rfl, ?_⟩)
  | (with_reducible refine fld_top (by assumption) ?_) | (with_reducible refine fld_bottom (by assumption) ?_)
  | (with_reducible refine ⟨_, .bl, ?_⟩)
  | ((with_reducible refine ⟨?h, ?_⟩); case h => rfl)
  | (with_reducible refine ⟨_, _, rfl, ?_⟩)
  | (with_reducible refine ⟨_, _, _, rfl, ?_⟩)
  | walk_at "use_3"
  | (with_reducible refine setN_top (by assumption) ?_) | (with_reducible refine setN_bottom (by assumption) ?_)
  | ((with_reducible refine ⟨_, _, _, ?j, _, rfl, rfl, .head, ?h, .head, ?_⟩); case h => rfl)
  | fail)
local macro_rules | `(tactic| walk_at "st_3") => `(tactic| first
  | ((with_reducible show We _ _ _ _ _ _); walk_at "sWe_3")
  | ((with_reducible show W2 _ _ _ _ _ _ _ _); walk_at "sW2_3")
  | ((with_reducible show Wa _ _ _ _ _ _); walk_at "sWa_3")
  | ((with_reducible show Ws _ _ _ _ _ _); walk_at "sWs_3")
  | ((with_reducible show Wt _ _ _ _ _ _); walk_at "sWt_3")
  | ((with_reducible show Wc _ _ _ _ _ _ _); walk_at "sWc_3")
  | ((with_reducible show Wg _ _ _ _ _ _ _); walk_at "sWg_3")
  | ((with_reducible show W1 _ _ _ _ _ _ _); walk_at "sW1_3")
  | ((with_reducible show Wgs _ _ _ _ _ _ _); walk_at "sWgs_3")
  | walk_at "sX_3" | fail)
local macro_rules | `(tactic| walk_at "wif_3") => `(tactic| (with_reducible refine ws_if ?_))
local macro_rules | `(tactic| walk_at "br_3") => `(tactic| ((with_reducible refine ⟨fun hb => ?_, fun hb => ?_⟩) <;> (try simp only [decide_eq_true_eq, decide_eq_false_iff_not, Bool.not_eq_true', Bool.not_eq_false', Bool.and_eq_true, Bool.or_eq_true, reduceCtorEq, List.length_map, Bool.not_true, Bool.not_false, DL.isNon, not_true_eq_false, not_false_eq_true, Classical.not_not, List.all_cons, List.all_nil, id_eq, Bool.and_self, Bool.true_and, decide_true, decide_false] at hb)))
local macro_rules | `(tactic| walk_at "go_3") => `(tactic| repeat' (first | walk_at "st_3" | walk_at "wif_3" | walk_at "br_3" | fail))
def S_nob : SpecD := fun ds m K _ => ∃ t : Int, ds = [.int t] ∧ K (.bl true) m
theorem use_nob {t : Int} {m : Mu} {K : KT} {E : Ex → Mu → Prop} (k : K (.bl true) m) : S_nob [.int t] m K E := ⟨t, rfl, k⟩
theorem ok_no_bottom (T : Txt G C_Ratio C_ZeroBottom C_OutOfBounds C_CarryError) (k_Ratio : Mak G 1 "Ratio" C_Ratio 3 (S_ginit C_Ratio C_ZeroBottom) []) {f : Addr} {fd : FuncData} (F : L2.Fun G.K "_law_no_bottom" "_law_no_bottom" s__law_no_bottom f fd) (b : L2.Binds G.K fd ["top"] []) : Fnx G 3 f 1 S_nob [] := by
  refine fnx_of F sc__law_no_bottom rfl b .nil rfl (fun cdv A outer s H FF hr tk => ⟨_, (pss_cons (ps_tryD (i := 1) rfl rfl sc__law_no_bottom.nd rfl rfl ⟨rfl, nd_CarryError.1, .inl T.mg_CarryError⟩ tk (fun W1 pn1 xe1 tk1 po1 => (pss_one (ps_expr (pe_mak k_Ratio hr (by decide) tk1 rfl (pa_cons (pe_var (i := 0) rfl (Or.inl rfl) nd_top.1 nd_top.2) (pa_cons pe_int pa_nil)))))) (fun a1 oe1 cls1 d1 pn1 hz hf => (pss_one (ps_ret (pe_and (pe_isE hz hf T.n_isinstance (pa_cons (pe_var (i := 1) rfl (Or.inl rfl) nd_e.1 nd_e.2) (pa_cons (pe_glob (v := .ref C_ZeroBottom) (by rfl) T.mg_ZeroBottom rfl) pa_nil))) (pe_and (pe_isE hz hf T.n_isinstance (pa_cons (pe_var (i := 1) rfl (Or.inl rfl) nd_e.1 nd_e.2) (pa_cons (pe_bltn (v := .ty "ValueError") (by rfl) T.n_ValueError bt_ValueError rfl) pa_nil))) (pe_one (pe_not (pe_isE hz hf T.n_isinstance (pa_cons (pe_var (i := 1) rfl (Or.inl rfl) nd_e.1 nd_e.2) (pa_cons (pe_glob (v := .ref C_OutOfBounds) (by rfl) T.mg_OutOfBounds rfl) pa_nil))))))))))) (pss_one (ps_ret pe_bl))), ?_⟩)
  rintro ds m K E - ⟨t, rfl, k⟩
  show Ws _ _ _ [some (.int t), none] _ _
  dsimp only [cx_G, cx_K]
  have XC := T.XC_ZeroBottom
  have i1 := T.is_ZeroBottom_ZeroBottom
  have i2 := T.is_ZeroBottom_OutOfBounds
  have i3 := T.isT_ZeroBottom_ValueError
  refine ws_seq (ws_try fun W' => ?_)
  walk_at "go_3"
  refine ⟨true, T.ex_ZeroBottom_CarryError, fun _ a dd => ?_, fun z => nomatch z⟩
  walk_at "go_3"
  all_goals exact k
def S_noq (C : Addr) : SpecD := fun ds m K _ => ∃ x y, ds = [rq C x, rq C y] ∧ Sz x ∧ Sz y ∧ y = 0 ∧ K (.bl true) m
theorem use_noq {C : Addr} {x y : Rat} {m : Mu} {K : KT} {E : Ex → Mu → Prop} (hx : Sz x) (hy : Sz y) (z : y = 0) (k : K (.bl true) m) : S_noq C [rq C x, rq C y] m K E := ⟨x, y, rfl, hx, hy, z, k⟩
local macro_rules | `(tactic| walk_at "fld_4") => `(tactic| (with_reducible refine we_fldF ?_))
local macro_rules | `(tactic| walk_at "useWe_4") => `(tactic| first | (with_reducible refine we_ratZ ?_) | (with_reducible refine we_mt ?_) | (with_reducible refine we_xf (by assumption) (by assumption) ?_) | fail)
local macro_rules | `(tactic| walk_at "sWe_4") => `(tactic| first
  | ((with_reducible refine we_var (d := ?d) ?hv ?hk); case hv => rfl)
  | (with_reducible first
    | refine we_cint ?_ | refine we_2 ?_ | refine we_cl0 ?_ | refine we_tup ?_ | refine we_1 ?_ | refine we_c2 ?_ | refine we_cbl ?_ | refine we_cnon ?_ | refine we_cty ?_ | refine we_cref ?_
    | refine we_op ?_ | refine we_andV ?_ | refine we_orV ?_ | refine we_notV ?_ | refine we_3 ?_ | refine we_ifx ?_ | refine we_cstr ?_ | refine we_clH ?_)
  | walk_at "fld_4"
  | walk_at "useWe_4")
local macro_rules | `(tactic| walk_at "useW2_4") => `(tactic| first | (with_reducible refine w2_eqHFI ?_) | fail)
local macro_rules | `(tactic| walk_at "sW2_4") => `(tactic| first
  | (with_reducible first
    | refine w2_add ?_ | refine w2_sub ?_ | refine w2_mul ⟨?_, ?_⟩ | refine w2_fdiv ⟨?_, ?_⟩ | refine w2_mod ⟨?_, ?_⟩ | refine w2_pow ⟨?_, ?_⟩ | refine w2_eqI ?_ | refine w2_neI ?_ | refine w2_lt ?_ | refine w2_le ?_ | refine w2_gt ?_ | refine w2_ge ?_ | refine w2_eqFI ?_ | refine w2_neFI ?_)
  | ((with_reducible refine w2_ixT (d := ?d) ⟨?hv, ?hk⟩); case hv => rfl)
  | ((with_reducible refine w2_ixL (d := ?d) ⟨?hv, ?hk⟩); case hv => rfl)
  | ((with_reducible refine w2_ixM (d := ?d) .head ⟨?hv, ?hk⟩); case hv => rfl)
  | (with_reducible first
    | refine w2_eqIH ?_ | refine w2_neIH ?_ | refine w2_mulH ⟨?_, ?_⟩ | refine w2_addH ?_ | refine w2_subH ?_ | refine w2_isN ?_ | refine w2_notN ?_ | refine w2_isB ?_ | refine w2_notB ?_)
  | walk_at "useW2_4")
local macro_rules | `(tactic| walk_at "sWa_4") => `(tactic| with_reducible first | refine wa_nil ?_ | refine wa_cons ?_)
local macro_rules | `(tactic| walk_at "useWs_4") => `(tactic| first | (with_reducible refine ws_rs0 ?_) | (with_reducible refine ws_rs ?_) | fail)
local macro_rules | `(tactic| walk_at "sWs_4") => `(tactic| first
  | (with_reducible first | refine ws_seq ?_ | refine ws_ret ?_ | refine ws_asg ?_ | refine ws_next ?_ | refine ws_drop ?_ | refine ws_par ?_ | refine ws_par3 ?_ | refine ws_fldN ?_ | refine ws_brk ?_ | refine ws_cont ?_)
  | walk_at "useWs_4")
local macro_rules | `(tactic| walk_at "sWt_4") => `(tactic| with_reducible first | refine wt_test ?_ | refine wt_tr ?_ | refine wt_and ?_ | refine wt_or ?_ | refine wt_not ?_)
local macro_rules | `(tactic| walk_at "useWc_4") => `(tactic| first | (with_reducible refine wc_isEC (by assumption) (by assumption) ?_) | (with_reducible refine wc_isET (by assumption) (by assumption) ?_) | fail)
local macro_rules | `(tactic| walk_at "sWc_4") => `(tactic| first
  | (with_reducible first | refine wc_int ?_ | refine wc_abs ?_ | refine wc_min ?_ | refine wc_gcd ?_ | refine wc_isiT .int kit_ii ?_ | refine wc_isiT .int kit_ib ?_ | refine wc_len .lst ?_ | refine wc_len .tup ?_ | refine wc_strI ?_ ?_)
  | walk_at "useWc_4")
local macro_rules | `(tactic| walk_at "sWg_4") => `(tactic| with_reducible first | refine wg_name ?_ | refine wg_subM ?_ | refine wg_tup rfl ?_)
local macro_rules | `(tactic| walk_at "sW1_4") => `(tactic| first | (with_reducible refine w1_neg ?_) | walk_at "useW2_4")
local macro_rules | `(tactic| walk_at "sWgs_4") => `(tactic| with_reducible first | refine wgs_cons ?_ | refine wgs_nil ?_)
local macro_rules | `(tactic| walk_at "use_4") => `(tactic| first | (with_reducible refine mt_of0 (by assumption) (by decide) ?_) | (with_reducible refine use_gdivZ (by assumption) (by assumption) (by assumption) ?_) | (with_reducible refine use_graisedZ (by assumption) (by assumption) ?_) | fail)
local macro_rules | `(tactic| walk_at "sX_4") => `(tactic| first
  | (with_reducible refine ⟨_, rfl, ?_⟩)
  | (with_reducible refine fld_top (by assumption) ?_) | (with_reducible refine fld_bottom (by assumption) ?_)
  | (with_reducible refine ⟨_, .bl, ?_⟩)
  | ((with_reducible refine ⟨?h, ?_⟩); case h => rfl)
  | (with_reducible refine ⟨_, _, rfl, ?_⟩)
  | (with_reducible refine ⟨_, _, _, rfl, ?_⟩)
  | walk_at "use_4"
  | (with_reducible refine setN_top (by assumption) ?_) | (with_reducible refine setN_bottom (by assumption) ?_)
  | ((with_reducible refine ⟨_, _, _, ?j, _, rfl, rfl, .head, ?h, .head, ?_⟩); case h => rfl)
  | fail)
local macro_rules | `(tactic| walk_at "st_4") => `(tactic| first
  | ((with_reducible show We _ _ _ _ _ _); walk_at "sWe_4")
  | ((with_reducible show W2 _ _ _ _ _ _ _ _); walk_at "sW2_4")
  | ((with_reducible show Wa _ _ _ _ _ _); walk_at "sWa_4")
  | ((with_reducible show Ws _ _ _ _ _ _); walk_at "sWs_4")
  | ((with_reducible show Wt _ _ _ _ _ _); walk_at "sWt_4")
  | ((with_reducible show Wc _ _ _ _ _ _ _); walk_at "sWc_4")
  | ((with_reducible show Wg _ _ _ _ _ _ _); walk_at "sWg_4")
  | ((with_reducible show W1 _ _ _ _ _ _ _); walk_at "sW1_4")
  | ((with_reducible show Wgs _ _ _ _ _ _ _); walk_at "sWgs_4")
  | walk_at "sX_4" | fail)
local macro_rules | `(tactic| walk_at "wif_4") => `(tactic| (with_reducible refine ws_if ?_))
local macro_rules | `(tactic| walk_at "br_4") => `(tactic| ((with_reducible refine ⟨fun hb => ?_, fun hb => ?_⟩) <;> (try simp only [decide_eq_true_eq, decide_eq_false_iff_not, Bool.not_eq_true', Bool.not_eq_false', Bool.and_eq_true, Bool.or_eq_true, reduceCtorEq, List.length_map, Bool.not_true, Bool.not_false, DL.isNon, not_true_eq_false, not_false_eq_true, Classical.not_not, List.all_cons, List.all_nil, id_eq, Bool.and_self, Bool.true_and, decide_true, decide_false] at hb)))
local macro_rules | `(tactic| walk_at "go_4") => `(tactic| repeat' (first | walk_at "st_4" | walk_at "wif_4" | walk_at "br_4" | fail))
theorem ok_no_quotient (T : Txt G C_Ratio C_ZeroBottom C_OutOfBounds C_CarryError) (m_Ratio_divided : Met G 3 C_Ratio ["top", "bottom"] "divided" 2 (S_gdiv C_Ratio C_ZeroBottom) []) {f : Addr} {fd : FuncData} (F : L2.Fun G.K "_law_no_quotient" "_law_no_quotient" s__law_no_quotient f fd) (b : L2.Binds G.K fd ["x", "zero"] []) : Fnx G 4 f 2 (S_noq C_Ratio) [] := by
  refine fnx_of F sc__law_no_quotient rfl b .nil rfl (fun cdv A outer s H FF hr tk => ⟨_, (pss_cons (ps_tryD (i := 2) rfl rfl sc__law_no_quotient.nd rfl rfl ⟨rfl, nd_CarryError.1, .inl T.mg_CarryError⟩ tk (fun W1 pn1 xe1 tk1 po1 => (pss_one (ps_expr (pe_mthG G (by rfl) (by exact hr) tk1 (pe_var (i := 0) rfl (Or.inl rfl) nd_x.1 nd_x.2) (pa_cons (pe_var (i := 1) rfl (Or.inl rfl) nd_zero.1 nd_zero.2) pa_nil))))) (fun a1 oe1 cls1 d1 pn1 hz hf => (pss_one (ps_ret (pe_and (pe_isE hz hf T.n_isinstance (pa_cons (pe_var (i := 2) rfl (Or.inl rfl) nd_e.1 nd_e.2) (pa_cons (pe_glob (v := .ref C_ZeroBottom) (by rfl) T.mg_ZeroBottom rfl) pa_nil))) (pe_and (pe_isE hz hf T.n_isinstance (pa_cons (pe_var (i := 2) rfl (Or.inl rfl) nd_e.1 nd_e.2) (pa_cons (pe_bltn (v := .ty "ValueError") (by rfl) T.n_ValueError bt_ValueError rfl) pa_nil))) (pe_one (pe_not (pe_isE hz hf T.n_isinstance (pa_cons (pe_var (i := 2) rfl (Or.inl rfl) nd_e.1 nd_e.2) (pa_cons (pe_glob (v := .ref C_OutOfBounds) (by rfl) T.mg_OutOfBounds rfl) pa_nil))))))))))) (pss_one (ps_ret pe_bl))), ?_⟩)
  rintro ds m K E - ⟨x, y, rfl, hx, hy, z, k⟩
  show Ws _ _ _ [some (rq C_Ratio x), some (rq C_Ratio y), none] _ _
  dsimp only [cx_G, cx_K]
  have XC := T.XC_ZeroBottom
  have i1 := T.is_ZeroBottom_ZeroBottom
  have i2 := T.is_ZeroBottom_OutOfBounds
  have i3 := T.isT_ZeroBottom_ValueError
  refine ws_seq (ws_try fun W' => ?_)
  walk_at "go_4"
  refine ⟨true, T.ex_ZeroBottom_CarryError, fun _ a dd => ?_, fun z => nomatch z⟩
  walk_at "go_4"
  all_goals exact k
theorem fix_1 {f : Str} {x : D} : fix f [f] [x] = some x := by
  unfold fix
  rw [if_pos rfl]
def S_noe (C : Addr) : SpecD := fun ds m K _ => ∃ x n, ds = [rq C x, .int n] ∧ Qb 15000 x ∧ ¬ (0 ≤ n ∧ n ≤ 64) ∧ K (.bl true) m
theorem use_noe {C : Addr} {x : Rat} {n : Int} {m : Mu} {K : KT} {E : Ex → Mu → Prop} (hx : Qb 15000 x) (z : ¬ (0 ≤ n ∧ n ≤ 64)) (k : K (.bl true) m) : S_noe C [rq C x, .int n] m K E := ⟨x, n, rfl, hx, z, k⟩
theorem ok_no_exponent (T : Txt G C_Ratio C_ZeroBottom C_OutOfBounds C_CarryError) (m_Ratio_raised : Met G 3 C_Ratio ["top", "bottom"] "raised" 2 (S_graised C_Ratio C_OutOfBounds) []) {f : Addr} {fd : FuncData} (F : L2.Fun G.K "_law_no_exponent" "_law_no_exponent" s__law_no_exponent f fd) (b : L2.Binds G.K fd ["x", "many"] []) : Fnx G 4 f 2 (S_noe C_Ratio) [] := by
  refine fnx_of F sc__law_no_exponent rfl b .nil rfl (fun cdv A outer s H FF hr tk => ⟨_, (pss_cons (ps_tryD (i := 2) rfl rfl sc__law_no_exponent.nd rfl rfl ⟨rfl, nd_CarryError.1, .inl T.mg_CarryError⟩ tk (fun W1 pn1 xe1 tk1 po1 => (pss_one (ps_expr (pe_mthG G (by rfl) (by exact hr) tk1 (pe_var (i := 0) rfl (Or.inl rfl) nd_x.1 nd_x.2) (pa_cons (pe_var (i := 1) rfl (Or.inl rfl) nd_many.1 nd_many.2) pa_nil))))) (fun a1 oe1 cls1 d1 pn1 hz hf => (pss_cons (ps_if (PW.pt (pw_or (pt_not (pt_trS (pe_isE hz hf T.n_isinstance (pa_cons (pe_var (i := 2) rfl (Or.inl rfl) nd_e.1 nd_e.2) (pa_cons (pe_glob (v := .ref C_OutOfBounds) (by rfl) T.mg_OutOfBounds rfl) pa_nil))))) (pw_or (pt_not (pt_trS (pe_isE hz hf T.n_isinstance (pa_cons (pe_var (i := 2) rfl (Or.inl rfl) nd_e.1 nd_e.2) (pa_cons (pe_bltn (v := .ty "ValueError") (by rfl) T.n_ValueError bt_ValueError rfl) pa_nil))))) (pw_or1 (pt_trS (pe_isE hz hf T.n_isinstance (pa_cons (pe_var (i := 2) rfl (Or.inl rfl) nd_e.1 nd_e.2) (pa_cons (pe_glob (v := .ref C_ZeroBottom) (by rfl) T.mg_ZeroBottom rfl) pa_nil)))))))) (pss_one (ps_ret pe_bl)) pss_nil) (pss_one (ps_ret (pe_and (pe_cb (oc := cIsi G) cs_isi rfl T.n_isinstance bt_isinstance (pa_cons (pe_xfD hz hf (pe_var (i := 2) rfl (Or.inl rfl) nd_e.1 nd_e.2)) (pa_cons (pe_bltn (v := .ty "int") (by rfl) T.n_int bt_int rfl) pa_nil))) (pe_and (pe_not (pe_cb (oc := cIsi G) cs_isi rfl T.n_isinstance bt_isinstance (pa_cons (pe_xfD hz hf (pe_var (i := 2) rfl (Or.inl rfl) nd_e.1 nd_e.2)) (pa_cons (pe_bltn (v := .ty "bool") (by rfl) T.n_bool bt_bool rfl) pa_nil)))) (pe_one (pe_cm (o := oEqHF G) (os_eqHF (rH hr)) (pe_xfD hz hf (pe_var (i := 2) rfl (Or.inl rfl) nd_e.1 nd_e.2)) (pe_var (i := 1) rfl (Or.inl rfl) nd_many.1 nd_many.2) (nomark _)))))))))) (pss_one (ps_ret pe_bl))), ?_⟩)
  rintro ds m K E - ⟨x, n, rfl, hx, z, k⟩
  show Ws _ _ _ [some (rq C_Ratio x), some (.int n), none] _ _
  dsimp only [cx_G, cx_K]
  have XC := T.XC_OutOfBounds
  have xf := XC.xf
  have no := T.no_OutOfBounds_value
  have i1 := T.is_OutOfBounds_OutOfBounds
  have i2 := T.is_OutOfBounds_ZeroBottom
  have i3 := T.isT_OutOfBounds_ValueError
  refine ws_seq (ws_try fun W' => ?_)
  walk_at "go_4"
  refine ⟨true, T.ex_OutOfBounds_CarryError, fun _ a dd => ?_, fun z => nomatch z⟩
  walk_at "go_4"
  refine ⟨_, _, _, rfl, fix_1, ?_⟩
  walk_at "go_4"
  refine ⟨_, _, _, rfl, fix_1, ?_⟩
  walk_at "go_4"
  refine ⟨_, _, _, rfl, fix_1, ?_⟩
  walk_at "go_4"
  rw [decide_eq_true rfl]
  exact k
end
end K01
set_option Elab.async false
set_option linter.all false
set_option maxRecDepth 100000
set_option maxHeartbeats 4000000
namespace K01
open PySem PySem.Spec L2 DL
open PyProof.Rows hiding St
/-! one step, by the goal's head -/

/-! Ratio and Span by numbers: their promises used -/

section
variable {G : Gx} {C_Ratio C_ZeroBottom C_OutOfBounds C_CarryError : Addr}
local macro_rules | `(tactic| walk_at "fld_1") => `(tactic| (with_reducible refine we_fldF ?_))
local macro_rules | `(tactic| walk_at "useWe_1") => `(tactic| first | (with_reducible refine we_mt ?_) | fail)
local macro_rules | `(tactic| walk_at "sWe_1") => `(tactic| first
  | ((with_reducible refine we_var (d := ?d) ?hv ?hk); case hv => rfl)
  | (with_reducible first
    | refine we_cint ?_ | refine we_2 ?_ | refine we_cl0 ?_ | refine we_tup ?_ | refine we_1 ?_ | refine we_c2 ?_ | refine we_cbl ?_ | refine we_cnon ?_ | refine we_cty ?_ | refine we_cref ?_
    | refine we_op ?_ | refine we_andV ?_ | refine we_orV ?_ | refine we_notV ?_ | refine we_3 ?_ | refine we_ifx ?_ | refine we_cstr ?_ | refine we_clH ?_)
  | walk_at "fld_1"
  | walk_at "useWe_1")
local macro_rules | `(tactic| walk_at "useW2_1") => `(tactic| first
  | (with_reducible refine w2_addO (by assumption) (by decide) .fixed .fixed ?_) | (with_reducible refine w2_subO (by assumption) (by decide) .fixed .fixed ?_) | (with_reducible refine w2_mulO (by assumption) (by decide) .fixed .fixed ?_) | (with_reducible refine w1_negO (by assumption) (by decide) .fixed ?_) | (with_reducible refine w2_inO (by assumption) (by decide) .fixed ?_) | fail)
local macro_rules | `(tactic| walk_at "sW2_1") => `(tactic| first
  | (with_reducible first
    | refine w2_add ?_ | refine w2_sub ?_ | refine w2_mul ⟨?_, ?_⟩ | refine w2_fdiv ⟨?_, ?_⟩ | refine w2_mod ⟨?_, ?_⟩ | refine w2_pow ⟨?_, ?_⟩ | refine w2_eqI ?_ | refine w2_neI ?_ | refine w2_lt ?_ | refine w2_le ?_ | refine w2_gt ?_ | refine w2_ge ?_ | refine w2_eqFI ?_ | refine w2_neFI ?_)
  | ((with_reducible refine w2_ixT (d := ?d) ⟨?hv, ?hk⟩); case hv => rfl)
  | ((with_reducible refine w2_ixL (d := ?d) ⟨?hv, ?hk⟩); case hv => rfl)
  | ((with_reducible refine w2_ixM (d := ?d) .head ⟨?hv, ?hk⟩); case hv => rfl)
  | (with_reducible first
    | refine w2_eqIH ?_ | refine w2_neIH ?_ | refine w2_mulH ⟨?_, ?_⟩ | refine w2_addH ?_ | refine w2_subH ?_ | refine w2_isN ?_ | refine w2_notN ?_ | refine w2_isB ?_ | refine w2_notB ?_)
  | walk_at "useW2_1")
local macro_rules | `(tactic| walk_at "sWa_1") => `(tactic| with_reducible first | refine wa_nil ?_ | refine wa_cons ?_)
local macro_rules | `(tactic| walk_at "useWs_1") => `(tactic| first | (with_reducible refine ws_rs0 ?_) | (with_reducible refine ws_rs ?_) | fail)
local macro_rules | `(tactic| walk_at "sWs_1") => `(tactic| first
  | (with_reducible first | refine ws_seq ?_ | refine ws_ret ?_ | refine ws_asg ?_ | refine ws_next ?_ | refine ws_drop ?_ | refine ws_par ?_ | refine ws_par3 ?_ | refine ws_fldN ?_ | refine ws_brk ?_ | refine ws_cont ?_)
  | walk_at "useWs_1")
local macro_rules | `(tactic| walk_at "sWt_1") => `(tactic| with_reducible first | refine wt_test ?_ | refine wt_tr ?_ | refine wt_and ?_ | refine wt_or ?_ | refine wt_not ?_)
local macro_rules | `(tactic| walk_at "useWc_1") => `(tactic| fail)
local macro_rules | `(tactic| walk_at "sWc_1") => `(tactic| first
  | (with_reducible first | refine wc_int ?_ | refine wc_abs ?_ | refine wc_min ?_ | refine wc_gcd ?_ | refine wc_isiT .int kit_ii ?_ | refine wc_isiT .int kit_ib ?_ | refine wc_len .lst ?_ | refine wc_len .tup ?_ | refine wc_strI ?_ ?_)
  | walk_at "useWc_1")
local macro_rules | `(tactic| walk_at "sWg_1") => `(tactic| with_reducible first | refine wg_name ?_ | refine wg_subM ?_ | refine wg_tup rfl ?_)
local macro_rules | `(tactic| walk_at "sW1_1") => `(tactic| first | (with_reducible refine w1_neg ?_) | walk_at "useW2_1")
local macro_rules | `(tactic| walk_at "sWgs_1") => `(tactic| with_reducible first | refine wgs_cons ?_ | refine wgs_nil ?_)
local macro_rules | `(tactic| walk_at "use_1") => `(tactic| first
  | (with_reducible refine mt_of0 (by assumption) (by decide) ?_) | (with_reducible refine use_is ?_ ?_ ?_) | (with_reducible refine use_gadd ?_ ?_ ?_ ?_) | (with_reducible refine use_gsub ?_ ?_ ?_ ?_) | (with_reducible refine use_gmul ?_ ?_ ?_ ?_) | (with_reducible refine use_gdiv ?_ ?_ ?_ ?_ ?_)
  | (with_reducible refine use_plusQ (by assumption) (by assumption) ?_) | (with_reducible refine use_plusN (by assumption) (by assumption) ?_) | (with_reducible refine use_timesQ (by assumption) (by assumption) ?_) | (with_reducible refine use_timesD (by assumption) (by assumption) (by assumption) ?_)
  | (with_reducible refine use_noq ?_ ?_ ?_ ?_) | fail)
local macro_rules | `(tactic| walk_at "sX_1") => `(tactic| first
  | (with_reducible refine ⟨_, rfl, ?_⟩)
  | (with_reducible refine fld_top (by assumption) ?_) | (with_reducible refine fld_bottom (by assumption) ?_)
  | (with_reducible refine ⟨_, .bl, ?_⟩)
  | ((with_reducible refine ⟨?h, ?_⟩); case h => rfl)
  | (with_reducible refine ⟨_, _, rfl, ?_⟩)
  | (with_reducible refine ⟨_, _, _, rfl, ?_⟩)
  | walk_at "use_1"
  | (with_reducible refine setN_top (by assumption) ?_) | (with_reducible refine setN_bottom (by assumption) ?_)
  | ((with_reducible refine ⟨_, _, _, ?j, _, rfl, rfl, .head, ?h, .head, ?_⟩); case h => rfl)
  | fail)
local macro_rules | `(tactic| walk_at "st_1") => `(tactic| first
  | ((with_reducible show We _ _ _ _ _ _); walk_at "sWe_1")
  | ((with_reducible show W2 _ _ _ _ _ _ _ _); walk_at "sW2_1")
  | ((with_reducible show Wa _ _ _ _ _ _); walk_at "sWa_1")
  | ((with_reducible show Ws _ _ _ _ _ _); walk_at "sWs_1")
  | ((with_reducible show Wt _ _ _ _ _ _); walk_at "sWt_1")
  | ((with_reducible show Wc _ _ _ _ _ _ _); walk_at "sWc_1")
  | ((with_reducible show Wg _ _ _ _ _ _ _); walk_at "sWg_1")
  | ((with_reducible show W1 _ _ _ _ _ _ _); walk_at "sW1_1")
  | ((with_reducible show Wgs _ _ _ _ _ _ _); walk_at "sWgs_1")
  | walk_at "sX_1" | fail)
local macro_rules | `(tactic| walk_at "wif_1") => `(tactic| (with_reducible refine ws_if ?_))
local macro_rules | `(tactic| walk_at "br_1") => `(tactic| ((with_reducible refine ⟨fun hb => ?_, fun hb => ?_⟩) <;> (try simp only [decide_eq_true_eq, decide_eq_false_iff_not, Bool.not_eq_true', Bool.not_eq_false', Bool.and_eq_true, Bool.or_eq_true, reduceCtorEq, List.length_map, Bool.not_true, Bool.not_false, DL.isNon, not_true_eq_false, not_false_eq_true, Classical.not_not, List.all_cons, List.all_nil, id_eq, Bool.and_self, Bool.true_and, decide_true, decide_false] at hb)))
local macro_rules | `(tactic| walk_at "go_1") => `(tactic| repeat' (first | walk_at "st_1" | walk_at "wif_1" | walk_at "br_1" | fail))
def S_four (C : Addr) : SpecD := fun ds m K _ => ∃ x y, ds = [rq C x, rq C y, prq x, prq y] ∧ Qb 240 x ∧ Qb 240 y ∧ K (.bl true) m
theorem use_four {C : Addr} {x y : Rat} {m : Mu} {K : KT} {E : Ex → Mu → Prop} (hx : Qb 240 x) (hy : Qb 240 y) (k : K (.bl true) m) : S_four C [rq C x, rq C y, prq x, prq y] m K E := ⟨x, y, rfl, hx, hy, k⟩
theorem ok_four (T : Txt G C_Ratio C_ZeroBottom C_OutOfBounds C_CarryError) (m_Ratio_divided : Met G 3 C_Ratio ["top", "bottom"] "divided" 2 (S_gdiv C_Ratio C_ZeroBottom) []) (o_Ratio___add__ : Opr G 3 C_Ratio "__add__" 2 (S_gadd C_Ratio)) (o_Ratio___sub__ : Opr G 3 C_Ratio "__sub__" 2 (S_gsub C_Ratio)) (o_Ratio___mul__ : Opr G 3 C_Ratio "__mul__" 2 (S_gmul C_Ratio)) (c__law_plus : Cal G 2 "_law_plus" 2 S_plus []) (c__law_times : Cal G 2 "_law_times" 2 S_times []) (c__law_is : Cal G 1 "_law_is" 2 (S_is C_Ratio) []) (c__law_no_quotient : Cal G 4 "_law_no_quotient" 2 (S_noq C_Ratio) []) {f : Addr} {fd : FuncData} (F : L2.Fun G.K "_law_four" "_law_four" s__law_four f fd) (b : L2.Binds G.K fd ["x", "y", "a", "b"] []) : Fnx G 5 f 4 (S_four C_Ratio) [] := by
  refine fnx_of F sc__law_four rfl b .nil rfl (fun cdv A outer s H FF hr tk => ⟨_, (pss_cons (ps_if (pt_not (pt_tr (pe_cl c__law_is hr (by decide) tk rfl (pa_cons (pe_bin (os_add hr tk) (pe_var (i := 0) rfl (Or.inl rfl) nd_x.1 nd_x.2) (pe_var (i := 1) rfl (Or.inl rfl) nd_y.1 nd_y.2)) (pa_cons (pe_cl c__law_plus hr (by decide) tk rfl (pa_cons (pe_var (i := 2) rfl (Or.inl rfl) nd_a.1 nd_a.2) (pa_cons (pe_var (i := 3) rfl (Or.inl rfl) nd_b.1 nd_b.2) pa_nil))) pa_nil))))) (pss_one (ps_ret pe_bl)) pss_nil) (pss_cons (ps_if (pt_not (pt_tr (pe_cl c__law_is hr (by decide) tk rfl (pa_cons (pe_bin (os_sub hr tk) (pe_var (i := 0) rfl (Or.inl rfl) nd_x.1 nd_x.2) (pe_var (i := 1) rfl (Or.inl rfl) nd_y.1 nd_y.2)) (pa_cons (pe_cl c__law_plus hr (by decide) tk rfl (pa_cons (pe_var (i := 2) rfl (Or.inl rfl) nd_a.1 nd_a.2) (pa_cons (pe_tup (pa_cons (pe_una (us_neg hr tk) (pe_ix ix_seq (pe_var (i := 3) rfl (Or.inl rfl) nd_b.1 nd_b.2) pe_int (fun _ _ => rfl))) (pa_cons (pe_ix ix_seq (pe_var (i := 3) rfl (Or.inl rfl) nd_b.1 nd_b.2) pe_int (fun _ _ => rfl)) pa_nil))) pa_nil))) pa_nil))))) (pss_one (ps_ret pe_bl)) pss_nil) (pss_cons (ps_if (pt_not (pt_tr (pe_cl c__law_is hr (by decide) tk rfl (pa_cons (pe_bin (os_mul hr tk) (pe_var (i := 0) rfl (Or.inl rfl) nd_x.1 nd_x.2) (pe_var (i := 1) rfl (Or.inl rfl) nd_y.1 nd_y.2)) (pa_cons (pe_cl c__law_times hr (by decide) tk rfl (pa_cons (pe_var (i := 2) rfl (Or.inl rfl) nd_a.1 nd_a.2) (pa_cons (pe_var (i := 3) rfl (Or.inl rfl) nd_b.1 nd_b.2) pa_nil))) pa_nil))))) (pss_one (ps_ret pe_bl)) pss_nil) (pss_cons (ps_if (pt_cm (os_eqF hr tk) (pe_ix ix_seq (pe_var (i := 3) rfl (Or.inl rfl) nd_b.1 nd_b.2) pe_int (fun _ _ => rfl)) pe_int (nomark _)) (pss_one (ps_ret (pe_cl c__law_no_quotient hr (by decide) tk rfl (pa_cons (pe_var (i := 0) rfl (Or.inl rfl) nd_x.1 nd_x.2) (pa_cons (pe_var (i := 1) rfl (Or.inl rfl) nd_y.1 nd_y.2) pa_nil))))) pss_nil) (pss_one (ps_ret (pe_cl c__law_is hr (by decide) tk rfl (pa_cons (pe_mth hr tk (pe_var (i := 0) rfl (Or.inl rfl) nd_x.1 nd_x.2) (pa_cons (pe_var (i := 1) rfl (Or.inl rfl) nd_y.1 nd_y.2) pa_nil)) (pa_cons (pe_cl c__law_times hr (by decide) tk rfl (pa_cons (pe_var (i := 2) rfl (Or.inl rfl) nd_a.1 nd_a.2) (pa_cons (pe_tup (pa_cons (pe_ix ix_seq (pe_var (i := 3) rfl (Or.inl rfl) nd_b.1 nd_b.2) pe_int (fun _ _ => rfl)) (pa_cons (pe_ix ix_seq (pe_var (i := 3) rfl (Or.inl rfl) nd_b.1 nd_b.2) pe_int (fun _ _ => rfl)) pa_nil))) pa_nil))) pa_nil))))))))), ?_⟩)
  rintro ds m K E - ⟨x, y, rfl, hx, hy, k⟩
  show Ws _ _ _ [some (rq C_Ratio x), some (rq C_Ratio y), some (prq x), some (prq y)] _ _
  dsimp only [cx_G, cx_K]
  have sx : Sz x := hx.mono (by decide)
  have sy : Sz y := hy.mono (by decide)
  have dd : (x.den : Int) * (y.den : Int) ≠ 0 := Int.mul_ne_zero (den_ne x) (den_ne y)
  have bdd : Bd 480 ((x.den : Int) * (y.den : Int)) := hx.b.mul hy.b
  have bdn : Bd 480 ((x.den : Int) * y.num) := hx.b.mul hy.t
  have zy : y.num = 0 → y = 0 := fun z => Rat.num_eq_zero.mp z
  walk_at "go_1"
  all_goals first
    | assumption
    | rfl
    | exact dok_bd dd bdd (by decide)
    | exact zy ‹_›
    | exact fun z => ‹¬ _› (by rw [z]; rfl)
    | exact dok_bd (Int.mul_ne_zero (den_ne x) ‹_›) bdn (by decide)
    | exact k
    | skip
def S_smallp (C : Addr) : SpecD := fun ds m K _ => ∃ x, ds = [rq C x, prq x] ∧ Qb 240 x ∧ K (.bl true) m
theorem use_smallp {C : Addr} {x : Rat} {m : Mu} {K : KT} {E : Ex → Mu → Prop} (hx : Qb 240 x) (k : K (.bl true) m) : S_smallp C [rq C x, prq x] m K E := ⟨x, rfl, hx, k⟩
local macro_rules | `(tactic| walk_at "fld_2") => `(tactic| (with_reducible refine we_fldF ?_))
local macro_rules | `(tactic| walk_at "useWe_2") => `(tactic| first | (with_reducible refine we_mt ?_) | (with_reducible refine we_lst ?_) | fail)
local macro_rules | `(tactic| walk_at "sWe_2") => `(tactic| first
  | ((with_reducible refine we_var (d := ?d) ?hv ?hk); case hv => rfl)
  | (with_reducible first
    | refine we_cint ?_ | refine we_2 ?_ | refine we_cl0 ?_ | refine we_tup ?_ | refine we_1 ?_ | refine we_c2 ?_ | refine we_cbl ?_ | refine we_cnon ?_ | refine we_cty ?_ | refine we_cref ?_
    | refine we_op ?_ | refine we_andV ?_ | refine we_orV ?_ | refine we_notV ?_ | refine we_3 ?_ | refine we_ifx ?_ | refine we_cstr ?_ | refine we_clH ?_)
  | walk_at "fld_2"
  | walk_at "useWe_2")
local macro_rules | `(tactic| walk_at "useW2_2") => `(tactic| first | (with_reducible refine w2_powO (by assumption) (by decide) .fixed (by assumption) ?_) | fail)
local macro_rules | `(tactic| walk_at "sW2_2") => `(tactic| first
  | (with_reducible first
    | refine w2_add ?_ | refine w2_sub ?_ | refine w2_mul ⟨?_, ?_⟩ | refine w2_fdiv ⟨?_, ?_⟩ | refine w2_mod ⟨?_, ?_⟩ | refine w2_pow ⟨?_, ?_⟩ | refine w2_eqI ?_ | refine w2_neI ?_ | refine w2_lt ?_ | refine w2_le ?_ | refine w2_gt ?_ | refine w2_ge ?_ | refine w2_eqFI ?_ | refine w2_neFI ?_)
  | ((with_reducible refine w2_ixT (d := ?d) ⟨?hv, ?hk⟩); case hv => rfl)
  | ((with_reducible refine w2_ixL (d := ?d) ⟨?hv, ?hk⟩); case hv => rfl)
  | ((with_reducible refine w2_ixM (d := ?d) .head ⟨?hv, ?hk⟩); case hv => rfl)
  | (with_reducible first
    | refine w2_eqIH ?_ | refine w2_neIH ?_ | refine w2_mulH ⟨?_, ?_⟩ | refine w2_addH ?_ | refine w2_subH ?_ | refine w2_isN ?_ | refine w2_notN ?_ | refine w2_isB ?_ | refine w2_notB ?_)
  | walk_at "useW2_2")
local macro_rules | `(tactic| walk_at "sWa_2") => `(tactic| with_reducible first | refine wa_nil ?_ | refine wa_cons ?_)
local macro_rules | `(tactic| walk_at "useWs_2") => `(tactic| first | (with_reducible refine ws_rs0 ?_) | (with_reducible refine ws_rs ?_) | fail)
local macro_rules | `(tactic| walk_at "sWs_2") => `(tactic| first
  | (with_reducible first | refine ws_seq ?_ | refine ws_ret ?_ | refine ws_asg ?_ | refine ws_next ?_ | refine ws_drop ?_ | refine ws_par ?_ | refine ws_par3 ?_ | refine ws_fldN ?_ | refine ws_brk ?_ | refine ws_cont ?_)
  | walk_at "useWs_2")
local macro_rules | `(tactic| walk_at "sWt_2") => `(tactic| with_reducible first | refine wt_test ?_ | refine wt_tr ?_ | refine wt_and ?_ | refine wt_or ?_ | refine wt_not ?_)
local macro_rules | `(tactic| walk_at "useWc_2") => `(tactic| fail)
local macro_rules | `(tactic| walk_at "sWc_2") => `(tactic| first
  | (with_reducible first | refine wc_int ?_ | refine wc_abs ?_ | refine wc_min ?_ | refine wc_gcd ?_ | refine wc_isiT .int kit_ii ?_ | refine wc_isiT .int kit_ib ?_ | refine wc_len .lst ?_ | refine wc_len .tup ?_ | refine wc_strI ?_ ?_)
  | walk_at "useWc_2")
local macro_rules | `(tactic| walk_at "sWg_2") => `(tactic| with_reducible first | refine wg_name ?_ | refine wg_subM ?_ | refine wg_tup rfl ?_)
local macro_rules | `(tactic| walk_at "sW1_2") => `(tactic| first | (with_reducible refine w1_neg ?_) | walk_at "useW2_2")
local macro_rules | `(tactic| walk_at "sWgs_2") => `(tactic| with_reducible first | refine wgs_cons ?_ | refine wgs_nil ?_)
local macro_rules | `(tactic| walk_at "use_2") => `(tactic| first
  | (with_reducible refine mt_of0 (by assumption) (by decide) ?_) | (with_reducible refine use_is ?_ ?_ ?_) | (with_reducible refine use_graised (by assumption) ?_ ?_ ?_) | fail)
local macro_rules | `(tactic| walk_at "sX_2") => `(tactic| first
  | (with_reducible refine ⟨_, rfl, ?_⟩)
  | (with_reducible refine fld_top (by assumption) ?_) | (with_reducible refine fld_bottom (by assumption) ?_)
  | (with_reducible refine ⟨_, .bl, ?_⟩)
  | ((with_reducible refine ⟨?h, ?_⟩); case h => rfl)
  | (with_reducible refine ⟨_, _, rfl, ?_⟩)
  | (with_reducible refine ⟨_, _, _, rfl, ?_⟩)
  | walk_at "use_2"
  | (with_reducible refine setN_top (by assumption) ?_) | (with_reducible refine setN_bottom (by assumption) ?_)
  | ((with_reducible refine ⟨_, _, _, ?j, _, rfl, rfl, .head, ?h, .head, ?_⟩); case h => rfl)
  | fail)
local macro_rules | `(tactic| walk_at "st_2") => `(tactic| first
  | ((with_reducible show We _ _ _ _ _ _); walk_at "sWe_2")
  | ((with_reducible show W2 _ _ _ _ _ _ _ _); walk_at "sW2_2")
  | ((with_reducible show Wa _ _ _ _ _ _); walk_at "sWa_2")
  | ((with_reducible show Ws _ _ _ _ _ _); walk_at "sWs_2")
  | ((with_reducible show Wt _ _ _ _ _ _); walk_at "sWt_2")
  | ((with_reducible show Wc _ _ _ _ _ _ _); walk_at "sWc_2")
  | ((with_reducible show Wg _ _ _ _ _ _ _); walk_at "sWg_2")
  | ((with_reducible show W1 _ _ _ _ _ _ _); walk_at "sW1_2")
  | ((with_reducible show Wgs _ _ _ _ _ _ _); walk_at "sWgs_2")
  | walk_at "sX_2" | fail)
local macro_rules | `(tactic| walk_at "wif_2") => `(tactic| (with_reducible refine ws_if ?_))
local macro_rules | `(tactic| walk_at "br_2") => `(tactic| ((with_reducible refine ⟨fun hb => ?_, fun hb => ?_⟩) <;> (try simp only [decide_eq_true_eq, decide_eq_false_iff_not, Bool.not_eq_true', Bool.not_eq_false', Bool.and_eq_true, Bool.or_eq_true, reduceCtorEq, List.length_map, Bool.not_true, Bool.not_false, DL.isNon, not_true_eq_false, not_false_eq_true, Classical.not_not, List.all_cons, List.all_nil, id_eq, Bool.and_self, Bool.true_and, decide_true, decide_false] at hb)))
local macro_rules | `(tactic| walk_at "go_2") => `(tactic| repeat' (first | walk_at "st_2" | walk_at "wif_2" | walk_at "br_2" | fail))
theorem prn {x : Rat} {i : Nat} : pr (x.num ^ i * x.num) ((x.den : Int) ^ i * (x.den : Int)) = pr (x.num ^ (i + 1)) ((x.den : Int) ^ (i + 1)) := by rw [Int.pow_succ, Int.pow_succ]
theorem pow_den {x : Rat} {n : Nat} : ((x ^ n).den : Int) = (x.den : Int) ^ n := by
  rw [Rat.den_pow]
  exact Int.natCast_pow _ _
theorem ok_small_powers (T : Txt G C_Ratio C_ZeroBottom C_OutOfBounds C_CarryError) (pc : PowC G.K C_Ratio) (m_Ratio_raised : Met G 3 C_Ratio ["top", "bottom"] "raised" 2 (S_graised C_Ratio C_OutOfBounds) []) (o_Ratio___pow__ : Opr G 4 C_Ratio "__pow__" 2 (S_graised C_Ratio C_OutOfBounds)) (c__law_is : Cal G 1 "_law_is" 2 (S_is C_Ratio) []) {f : Addr} {fd : FuncData} (F : L2.Fun G.K "_law_small_powers" "_law_small_powers" s__law_small_powers f fd) (b : L2.Binds G.K fd ["x", "a"] []) : Fnx G 5 f 2 (S_smallp C_Ratio) [] := by
  refine fnx_of F sc__law_small_powers rfl b .nil rfl (fun cdv A outer s H FF hr tk => ⟨_, (pss_cons (ps_set (i := 2) sc__law_small_powers.nd rfl (Or.inl rfl) (pe_lst (pa_cons (pe_bin (os_powF hr tk) (pe_var (i := 0) rfl (Or.inl rfl) nd_x.1 nd_x.2) pe_int) (pa_cons (pe_bin (os_powF hr tk) (pe_var (i := 0) rfl (Or.inl rfl) nd_x.1 nd_x.2) pe_int) (pa_cons (pe_bin (os_powF hr tk) (pe_var (i := 0) rfl (Or.inl rfl) nd_x.1 nd_x.2) pe_int) (pa_cons (pe_bin (os_powF hr tk) (pe_var (i := 0) rfl (Or.inl rfl) nd_x.1 nd_x.2) pe_int) (pa_cons (pe_bin (os_powF hr tk) (pe_var (i := 0) rfl (Or.inl rfl) nd_x.1 nd_x.2) pe_int) (pa_cons (pe_bin (os_powF hr tk) (pe_var (i := 0) rfl (Or.inl rfl) nd_x.1 nd_x.2) pe_int) pa_nil)))))))) (pss_cons (ps_set (i := 3) sc__law_small_powers.nd rfl (Or.inl rfl) (pe_tup (pa_cons pe_int (pa_cons pe_int pa_nil)))) (pss_cons (ps_for (passes_of rfl) rfl (pi_range1 rfl T.n_range (pa_cons pe_int pa_nil)) (pg_name (i := 4) sc__law_small_powers.nd rfl (Or.inl rfl)) (pss_cons (ps_if (PW.pt (pw_or (pt_not (pt_tr (pe_cl c__law_is hr (by decide) tk rfl (pa_cons (pe_mth hr tk (pe_var (i := 0) rfl (Or.inl rfl) nd_x.1 nd_x.2) (pa_cons (pe_var (i := 4) rfl (Or.inl rfl) nd_k.1 nd_k.2) pa_nil)) (pa_cons (pe_var (i := 3) rfl (Or.inl rfl) nd_own.1 nd_own.2) pa_nil))))) (pw_or1 (pt_not (pt_tr (pe_cl c__law_is hr (by decide) tk rfl (pa_cons (pe_ix ix_seq (pe_var (i := 2) rfl (Or.inl rfl) nd_told.1 nd_told.2) (pe_var (i := 4) rfl (Or.inl rfl) nd_k.1 nd_k.2) (fun _ _ => rfl)) (pa_cons (pe_var (i := 3) rfl (Or.inl rfl) nd_own.1 nd_own.2) pa_nil)))))))) (pss_one (ps_ret pe_bl)) pss_nil) (pss_one (ps_set (i := 3) sc__law_small_powers.nd rfl (Or.inl rfl) (pe_tup (pa_cons (pe_bin (os_mul hr tk) (pe_ix ix_seq (pe_var (i := 3) rfl (Or.inl rfl) nd_own.1 nd_own.2) pe_int (fun _ _ => rfl)) (pe_ix ix_seq (pe_var (i := 1) rfl (Or.inl rfl) nd_a.1 nd_a.2) pe_int (fun _ _ => rfl))) (pa_cons (pe_bin (os_mul hr tk) (pe_ix ix_seq (pe_var (i := 3) rfl (Or.inl rfl) nd_own.1 nd_own.2) pe_int (fun _ _ => rfl)) (pe_ix ix_seq (pe_var (i := 1) rfl (Or.inl rfl) nd_a.1 nd_a.2) pe_int (fun _ _ => rfl))) pa_nil))))))) (pss_one (ps_ret pe_bl))))), ?_⟩)
  rintro ds m K E - ⟨x, rfl, hx, k⟩
  show Ws _ _ _ [some (rq C_Ratio x), some (prq x), none, none, none] _ _
  dsimp only [cx_G, cx_K]
  have qx : Qb 15000 x := hx.mono (by decide)
  walk_at "go_2"
  all_goals try decide
  refine ws_range1 ?_
  walk_at "go_2"
  refine ⟨6, fun i r' m' => m' = m ∧ ∃ o, r' = [some (rq C_Ratio x), some (prq x), some (.lst [rq C_Ratio (x ^ 0), rq C_Ratio (x ^ 1), rq C_Ratio (x ^ 2), rq C_Ratio (x ^ 3), rq C_Ratio (x ^ 4), rq C_Ratio (x ^ 5)]), some (pr (x.num ^ i) ((x.den : Int) ^ i)), o], rfl, by decide, ⟨rfl, none, by rw [Int.pow_zero, Int.pow_zero]; rfl⟩, ?_, ?_⟩
  · rintro i r' m' hi ⟨rfl, o, rfl⟩
    have hi6 : i < 6 := hi
    have at_ : atI [rq C_Ratio (x ^ 0), rq C_Ratio (x ^ 1), rq C_Ratio (x ^ 2), rq C_Ratio (x ^ 3), rq C_Ratio (x ^ 4), rq C_Ratio (x ^ 5)] (i : Int) = some (rq C_Ratio (x ^ i)) := by
      match i, hi6 with
      | 0, _ => rfl
      | 1, _ => rfl
      | 2, _ => rfl
      | 3, _ => rfl
      | 4, _ => rfl
      | 5, _ => rfl
    have l1 : i * 240 + 1 ≤ 2000 := by omega
    walk_at "go_2"
    all_goals try first
      | omega
      | (rw [Int.toNat_natCast]; exact Rat.num_pow x i)
      | (rw [Int.toNat_natCast]; exact pow_den)
    refine w2_ixL ⟨at_, ?_⟩
    walk_at "go_2"
    all_goals first
      | exact Rat.num_pow x i
      | exact pow_den
      | exact ((hx.t.pow i).mono l1).mulX hx.t (by decide)
      | exact ((hx.b.pow i).mono l1).mulX hx.b (by decide)
      | exact ⟨some (.int (i : Int)), by rw [Int.pow_succ, Int.pow_succ]; rfl⟩
      | skip
  · rintro r' m' ⟨rfl, o, rfl⟩
    walk_at "go_2"
    exact k
def S_drawn (C : Addr) : SpecD := fun ds m K _ => ∃ x n, ds = [rq C x, prq x, .int n] ∧ Qb 240 x ∧ 0 ≤ n ∧ n ≤ 64 ∧ K (.bl true) m
theorem use_drawn {C : Addr} {x : Rat} {n : Int} {m : Mu} {K : KT} {E : Ex → Mu → Prop} (hx : Qb 240 x) (h0 : 0 ≤ n) (h1 : n ≤ 64) (k : K (.bl true) m) : S_drawn C [rq C x, prq x, .int n] m K E := ⟨x, n, rfl, hx, h0, h1, k⟩
theorem ok_drawn_power (T : Txt G C_Ratio C_ZeroBottom C_OutOfBounds C_CarryError) (m_Ratio_raised : Met G 3 C_Ratio ["top", "bottom"] "raised" 2 (S_graised C_Ratio C_OutOfBounds) []) (c__law_is : Cal G 1 "_law_is" 2 (S_is C_Ratio) []) {f : Addr} {fd : FuncData} (F : L2.Fun G.K "_law_drawn_power" "_law_drawn_power" s__law_drawn_power f fd) (b : L2.Binds G.K fd ["x", "a", "many"] []) : Fnx G 4 f 3 (S_drawn C_Ratio) [] := by
  refine fnx_of F sc__law_drawn_power rfl b .nil rfl (fun cdv A outer s H FF hr tk => ⟨_, (pss_cons (ps_set (i := 3) sc__law_drawn_power.nd rfl (Or.inl rfl) (pe_tup (pa_cons pe_int (pa_cons pe_int pa_nil)))) (pss_cons (ps_for (passes_of rfl) rfl (pi_range1 rfl T.n_range (pa_cons (pe_var (i := 2) rfl (Or.inl rfl) nd_many.1 nd_many.2) pa_nil)) (pg_name (i := 4) sc__law_drawn_power.nd rfl (Or.inl rfl)) (pss_one (ps_set (i := 3) sc__law_drawn_power.nd rfl (Or.inl rfl) (pe_tup (pa_cons (pe_bin (os_mul hr tk) (pe_ix ix_seq (pe_var (i := 3) rfl (Or.inl rfl) nd_own.1 nd_own.2) pe_int (fun _ _ => rfl)) (pe_ix ix_seq (pe_var (i := 1) rfl (Or.inl rfl) nd_a.1 nd_a.2) pe_int (fun _ _ => rfl))) (pa_cons (pe_bin (os_mul hr tk) (pe_ix ix_seq (pe_var (i := 3) rfl (Or.inl rfl) nd_own.1 nd_own.2) pe_int (fun _ _ => rfl)) (pe_ix ix_seq (pe_var (i := 1) rfl (Or.inl rfl) nd_a.1 nd_a.2) pe_int (fun _ _ => rfl))) pa_nil)))))) (pss_one (ps_ret (pe_cl c__law_is hr (by decide) tk rfl (pa_cons (pe_mth hr tk (pe_var (i := 0) rfl (Or.inl rfl) nd_x.1 nd_x.2) (pa_cons (pe_var (i := 2) rfl (Or.inl rfl) nd_many.1 nd_many.2) pa_nil)) (pa_cons (pe_var (i := 3) rfl (Or.inl rfl) nd_own.1 nd_own.2) pa_nil))))))), ?_⟩)
  rintro ds m K E - ⟨x, n, rfl, hx, h0, h1, k⟩
  show Ws _ _ _ [some (rq C_Ratio x), some (prq x), some (.int n), none, none] _ _
  dsimp only [cx_G, cx_K]
  have qx : Qb 15000 x := hx.mono (by decide)
  walk_at "go_2"
  refine ws_range1 ?_
  walk_at "go_2"
  refine ⟨n, fun i r' m' => m' = m ∧ ∃ o, r' = [some (rq C_Ratio x), some (prq x), some (.int n), some (pr (x.num ^ i) ((x.den : Int) ^ i)), o], rfl, by omega, ⟨rfl, none, by rw [Int.pow_zero, Int.pow_zero]; rfl⟩, ?_, ?_⟩
  · rintro i r' m' hi ⟨rfl, o, rfl⟩
    have l1 : i * 240 + 1 ≤ 20000 := by omega
    walk_at "go_2"
    all_goals first
      | exact ((hx.t.pow i).mono l1).mulX hx.t (by decide)
      | exact ((hx.b.pow i).mono l1).mulX hx.b (by decide)
      | exact ⟨some (.int (i : Int)), by rw [Int.pow_succ, Int.pow_succ]; rfl⟩
  · rintro r' m' ⟨rfl, o, rfl⟩
    walk_at "go_2"
    all_goals first
      | exact h0
      | exact h1
      | exact Rat.num_pow x _
      | exact pow_den
      | exact k
end
end K01
set_option Elab.async false
set_option linter.all false
set_option maxRecDepth 100000
set_option maxHeartbeats 4000000
namespace K01
open PySem PySem.Spec L2 DL
open PyProof.Rows hiding St
/-! one step, by the goal's head -/

/-! Ratio and Span by numbers: their promises used -/

section
variable {G : Gx} {C_Ratio C_ZeroBottom C_OutOfBounds C_CarryError : Addr}
local macro_rules | `(tactic| walk_at "fld_1") => `(tactic| (with_reducible refine we_fldF ?_))
local macro_rules | `(tactic| walk_at "useWe_1") => `(tactic| first | (with_reducible refine we_mt ?_) | fail)
local macro_rules | `(tactic| walk_at "sWe_1") => `(tactic| first
  | ((with_reducible refine we_var (d := ?d) ?hv ?hk); case hv => rfl)
  | (with_reducible first
    | refine we_cint ?_ | refine we_2 ?_ | refine we_cl0 ?_ | refine we_tup ?_ | refine we_1 ?_ | refine we_c2 ?_ | refine we_cbl ?_ | refine we_cnon ?_ | refine we_cty ?_ | refine we_cref ?_
    | refine we_op ?_ | refine we_andV ?_ | refine we_orV ?_ | refine we_notV ?_ | refine we_3 ?_ | refine we_ifx ?_ | refine we_cstr ?_ | refine we_clH ?_)
  | walk_at "fld_1"
  | walk_at "useWe_1")
local macro_rules | `(tactic| walk_at "useW2_1") => `(tactic| first | (with_reducible refine w2_powO (by assumption) (by decide) .fixed (by assumption) ?_) | fail)
local macro_rules | `(tactic| walk_at "sW2_1") => `(tactic| first
  | (with_reducible first
    | refine w2_add ?_ | refine w2_sub ?_ | refine w2_mul ⟨?_, ?_⟩ | refine w2_fdiv ⟨?_, ?_⟩ | refine w2_mod ⟨?_, ?_⟩ | refine w2_pow ⟨?_, ?_⟩ | refine w2_eqI ?_ | refine w2_neI ?_ | refine w2_lt ?_ | refine w2_le ?_ | refine w2_gt ?_ | refine w2_ge ?_ | refine w2_eqFI ?_ | refine w2_neFI ?_)
  | ((with_reducible refine w2_ixT (d := ?d) ⟨?hv, ?hk⟩); case hv => rfl)
  | ((with_reducible refine w2_ixL (d := ?d) ⟨?hv, ?hk⟩); case hv => rfl)
  | ((with_reducible refine w2_ixM (d := ?d) .head ⟨?hv, ?hk⟩); case hv => rfl)
  | (with_reducible first
    | refine w2_eqIH ?_ | refine w2_neIH ?_ | refine w2_mulH ⟨?_, ?_⟩ | refine w2_addH ?_ | refine w2_subH ?_ | refine w2_isN ?_ | refine w2_notN ?_ | refine w2_isB ?_ | refine w2_notB ?_)
  | walk_at "useW2_1")
local macro_rules | `(tactic| walk_at "sWa_1") => `(tactic| with_reducible first | refine wa_nil ?_ | refine wa_cons ?_)
local macro_rules | `(tactic| walk_at "useWs_1") => `(tactic| first | (with_reducible refine ws_rs0 ?_) | (with_reducible refine ws_rs ?_) | fail)
local macro_rules | `(tactic| walk_at "sWs_1") => `(tactic| first
  | (with_reducible first | refine ws_seq ?_ | refine ws_ret ?_ | refine ws_asg ?_ | refine ws_next ?_ | refine ws_drop ?_ | refine ws_par ?_ | refine ws_par3 ?_ | refine ws_fldN ?_ | refine ws_brk ?_ | refine ws_cont ?_)
  | walk_at "useWs_1")
local macro_rules | `(tactic| walk_at "sWt_1") => `(tactic| with_reducible first | refine wt_test ?_ | refine wt_tr ?_ | refine wt_and ?_ | refine wt_or ?_ | refine wt_not ?_)
local macro_rules | `(tactic| walk_at "useWc_1") => `(tactic| fail)
local macro_rules | `(tactic| walk_at "sWc_1") => `(tactic| first
  | (with_reducible first | refine wc_int ?_ | refine wc_abs ?_ | refine wc_min ?_ | refine wc_gcd ?_ | refine wc_isiT .int kit_ii ?_ | refine wc_isiT .int kit_ib ?_ | refine wc_len .lst ?_ | refine wc_len .tup ?_ | refine wc_strI ?_ ?_)
  | walk_at "useWc_1")
local macro_rules | `(tactic| walk_at "sWg_1") => `(tactic| with_reducible first | refine wg_name ?_ | refine wg_subM ?_ | refine wg_tup rfl ?_)
local macro_rules | `(tactic| walk_at "sW1_1") => `(tactic| first | (with_reducible refine w1_neg ?_) | walk_at "useW2_1")
local macro_rules | `(tactic| walk_at "sWgs_1") => `(tactic| with_reducible first | refine wgs_cons ?_ | refine wgs_nil ?_)
local macro_rules | `(tactic| walk_at "use_1") => `(tactic| first | (with_reducible refine use_graised (by assumption) (by decide) (by decide) ?_) | fail)
local macro_rules | `(tactic| walk_at "sX_1") => `(tactic| first
  | (with_reducible refine ⟨_, rfl, ?_⟩)
  | (with_reducible refine fld_top (by assumption) ?_) | (with_reducible refine fld_bottom (by assumption) ?_)
  | (with_reducible refine ⟨_, .bl, ?_⟩)
  | ((with_reducible refine ⟨?h, ?_⟩); case h => rfl)
  | (with_reducible refine ⟨_, _, rfl, ?_⟩)
  | (with_reducible refine ⟨_, _, _, rfl, ?_⟩)
  | walk_at "use_1"
  | (with_reducible refine setN_top (by assumption) ?_) | (with_reducible refine setN_bottom (by assumption) ?_)
  | ((with_reducible refine ⟨_, _, _, ?j, _, rfl, rfl, .head, ?h, .head, ?_⟩); case h => rfl)
  | fail)
local macro_rules | `(tactic| walk_at "st_1") => `(tactic| first
  | ((with_reducible show We _ _ _ _ _ _); walk_at "sWe_1")
  | ((with_reducible show W2 _ _ _ _ _ _ _ _); walk_at "sW2_1")
  | ((with_reducible show Wa _ _ _ _ _ _); walk_at "sWa_1")
  | ((with_reducible show Ws _ _ _ _ _ _); walk_at "sWs_1")
  | ((with_reducible show Wt _ _ _ _ _ _); walk_at "sWt_1")
  | ((with_reducible show Wc _ _ _ _ _ _ _); walk_at "sWc_1")
  | ((with_reducible show Wg _ _ _ _ _ _ _); walk_at "sWg_1")
  | ((with_reducible show W1 _ _ _ _ _ _ _); walk_at "sW1_1")
  | ((with_reducible show Wgs _ _ _ _ _ _ _); walk_at "sWgs_1")
  | walk_at "sX_1" | fail)
local macro_rules | `(tactic| walk_at "wif_1") => `(tactic| (with_reducible refine ws_if ?_))
local macro_rules | `(tactic| walk_at "br_1") => `(tactic| ((with_reducible refine ⟨fun hb => ?_, fun hb => ?_⟩) <;> (try simp only [decide_eq_true_eq, decide_eq_false_iff_not, Bool.not_eq_true', Bool.not_eq_false', Bool.and_eq_true, Bool.or_eq_true, reduceCtorEq, List.length_map, Bool.not_true, Bool.not_false, DL.isNon, not_true_eq_false, not_false_eq_true, Classical.not_not, List.all_cons, List.all_nil, id_eq, Bool.and_self, Bool.true_and, decide_true, decide_false] at hb)))
local macro_rules | `(tactic| walk_at "go_1") => `(tactic| repeat' (first | walk_at "st_1" | walk_at "wif_1" | walk_at "br_1" | fail))
def S_allp (C : Addr) : SpecD := fun ds m K _ => ∃ x, ds = [rq C x] ∧ Qb 240 x ∧ K (.lst ((List.range 65).map fun i => rq C (x ^ i))) m
theorem use_allp {C : Addr} {x : Rat} {m : Mu} {K : KT} {E : Ex → Mu → Prop} (hx : Qb 240 x) (k : K (.lst ((List.range 65).map fun i => rq C (x ^ i))) m) : S_allp C [rq C x] m K E := ⟨x, rfl, hx, k⟩
theorem ok_all_powers (T : Txt G C_Ratio C_ZeroBottom C_OutOfBounds C_CarryError) (pc : PowC G.K C_Ratio) (o_Ratio___pow__ : Opr G 4 C_Ratio "__pow__" 2 (S_graised C_Ratio C_OutOfBounds)) {f : Addr} {fd : FuncData} (F : L2.Fun G.K "_law_all_powers" "_law_all_powers" s__law_all_powers f fd) (b : L2.Binds G.K fd ["x"] []) : Fnx G 5 f 1 (S_allp C_Ratio) [] := by
  refine fnx_of F sc__law_all_powers rfl b .nil rfl (fun cdv A outer s H FF hr tk => ⟨_, (pss_cons (ps_set (i := 1) sc__law_all_powers.nd rfl (Or.inl rfl) (pe_lst (pa_cons (pe_bin (os_powF hr tk) (pe_var (i := 0) rfl (Or.inl rfl) nd_x.1 nd_x.2) pe_int) (pa_cons (pe_bin (os_powF hr tk) (pe_var (i := 0) rfl (Or.inl rfl) nd_x.1 nd_x.2) pe_int) (pa_cons (pe_bin (os_powF hr tk) (pe_var (i := 0) rfl (Or.inl rfl) nd_x.1 nd_x.2) pe_int) (pa_cons (pe_bin (os_powF hr tk) (pe_var (i := 0) rfl (Or.inl rfl) nd_x.1 nd_x.2) pe_int) (pa_cons (pe_bin (os_powF hr tk) (pe_var (i := 0) rfl (Or.inl rfl) nd_x.1 nd_x.2) pe_int) (pa_cons (pe_bin (os_powF hr tk) (pe_var (i := 0) rfl (Or.inl rfl) nd_x.1 nd_x.2) pe_int) (pa_cons (pe_bin (os_powF hr tk) (pe_var (i := 0) rfl (Or.inl rfl) nd_x.1 nd_x.2) pe_int) pa_nil))))))))) (pss_cons (ps_set (i := 1) sc__law_all_powers.nd rfl (Or.inl rfl) (pe_bin (os_add hr tk) (pe_var (i := 1) rfl (Or.inl rfl) nd_told.1 nd_told.2) (pe_lst (pa_cons (pe_bin (os_powF hr tk) (pe_var (i := 0) rfl (Or.inl rfl) nd_x.1 nd_x.2) pe_int) (pa_cons (pe_bin (os_powF hr tk) (pe_var (i := 0) rfl (Or.inl rfl) nd_x.1 nd_x.2) pe_int) (pa_cons (pe_bin (os_powF hr tk) (pe_var (i := 0) rfl (Or.inl rfl) nd_x.1 nd_x.2) pe_int) (pa_cons (pe_bin (os_powF hr tk) (pe_var (i := 0) rfl (Or.inl rfl) nd_x.1 nd_x.2) pe_int) (pa_cons (pe_bin (os_powF hr tk) (pe_var (i := 0) rfl (Or.inl rfl) nd_x.1 nd_x.2) pe_int) (pa_cons (pe_bin (os_powF hr tk) (pe_var (i := 0) rfl (Or.inl rfl) nd_x.1 nd_x.2) pe_int) pa_nil))))))))) (pss_cons (ps_set (i := 1) sc__law_all_powers.nd rfl (Or.inl rfl) (pe_bin (os_add hr tk) (pe_var (i := 1) rfl (Or.inl rfl) nd_told.1 nd_told.2) (pe_lst (pa_cons (pe_bin (os_powF hr tk) (pe_var (i := 0) rfl (Or.inl rfl) nd_x.1 nd_x.2) pe_int) (pa_cons (pe_bin (os_powF hr tk) (pe_var (i := 0) rfl (Or.inl rfl) nd_x.1 nd_x.2) pe_int) (pa_cons (pe_bin (os_powF hr tk) (pe_var (i := 0) rfl (Or.inl rfl) nd_x.1 nd_x.2) pe_int) (pa_cons (pe_bin (os_powF hr tk) (pe_var (i := 0) rfl (Or.inl rfl) nd_x.1 nd_x.2) pe_int) (pa_cons (pe_bin (os_powF hr tk) (pe_var (i := 0) rfl (Or.inl rfl) nd_x.1 nd_x.2) pe_int) (pa_cons (pe_bin (os_powF hr tk) (pe_var (i := 0) rfl (Or.inl rfl) nd_x.1 nd_x.2) pe_int) pa_nil))))))))) (pss_cons (ps_set (i := 1) sc__law_all_powers.nd rfl (Or.inl rfl) (pe_bin (os_add hr tk) (pe_var (i := 1) rfl (Or.inl rfl) nd_told.1 nd_told.2) (pe_lst (pa_cons (pe_bin (os_powF hr tk) (pe_var (i := 0) rfl (Or.inl rfl) nd_x.1 nd_x.2) pe_int) (pa_cons (pe_bin (os_powF hr tk) (pe_var (i := 0) rfl (Or.inl rfl) nd_x.1 nd_x.2) pe_int) (pa_cons (pe_bin (os_powF hr tk) (pe_var (i := 0) rfl (Or.inl rfl) nd_x.1 nd_x.2) pe_int) (pa_cons (pe_bin (os_powF hr tk) (pe_var (i := 0) rfl (Or.inl rfl) nd_x.1 nd_x.2) pe_int) (pa_cons (pe_bin (os_powF hr tk) (pe_var (i := 0) rfl (Or.inl rfl) nd_x.1 nd_x.2) pe_int) (pa_cons (pe_bin (os_powF hr tk) (pe_var (i := 0) rfl (Or.inl rfl) nd_x.1 nd_x.2) pe_int) pa_nil))))))))) (pss_cons (ps_set (i := 1) sc__law_all_powers.nd rfl (Or.inl rfl) (pe_bin (os_add hr tk) (pe_var (i := 1) rfl (Or.inl rfl) nd_told.1 nd_told.2) (pe_lst (pa_cons (pe_bin (os_powF hr tk) (pe_var (i := 0) rfl (Or.inl rfl) nd_x.1 nd_x.2) pe_int) (pa_cons (pe_bin (os_powF hr tk) (pe_var (i := 0) rfl (Or.inl rfl) nd_x.1 nd_x.2) pe_int) (pa_cons (pe_bin (os_powF hr tk) (pe_var (i := 0) rfl (Or.inl rfl) nd_x.1 nd_x.2) pe_int) (pa_cons (pe_bin (os_powF hr tk) (pe_var (i := 0) rfl (Or.inl rfl) nd_x.1 nd_x.2) pe_int) (pa_cons (pe_bin (os_powF hr tk) (pe_var (i := 0) rfl (Or.inl rfl) nd_x.1 nd_x.2) pe_int) (pa_cons (pe_bin (os_powF hr tk) (pe_var (i := 0) rfl (Or.inl rfl) nd_x.1 nd_x.2) pe_int) pa_nil))))))))) (pss_cons (ps_set (i := 1) sc__law_all_powers.nd rfl (Or.inl rfl) (pe_bin (os_add hr tk) (pe_var (i := 1) rfl (Or.inl rfl) nd_told.1 nd_told.2) (pe_lst (pa_cons (pe_bin (os_powF hr tk) (pe_var (i := 0) rfl (Or.inl rfl) nd_x.1 nd_x.2) pe_int) (pa_cons (pe_bin (os_powF hr tk) (pe_var (i := 0) rfl (Or.inl rfl) nd_x.1 nd_x.2) pe_int) (pa_cons (pe_bin (os_powF hr tk) (pe_var (i := 0) rfl (Or.inl rfl) nd_x.1 nd_x.2) pe_int) (pa_cons (pe_bin (os_powF hr tk) (pe_var (i := 0) rfl (Or.inl rfl) nd_x.1 nd_x.2) pe_int) (pa_cons (pe_bin (os_powF hr tk) (pe_var (i := 0) rfl (Or.inl rfl) nd_x.1 nd_x.2) pe_int) (pa_cons (pe_bin (os_powF hr tk) (pe_var (i := 0) rfl (Or.inl rfl) nd_x.1 nd_x.2) pe_int) pa_nil))))))))) (pss_cons (ps_set (i := 1) sc__law_all_powers.nd rfl (Or.inl rfl) (pe_bin (os_add hr tk) (pe_var (i := 1) rfl (Or.inl rfl) nd_told.1 nd_told.2) (pe_lst (pa_cons (pe_bin (os_powF hr tk) (pe_var (i := 0) rfl (Or.inl rfl) nd_x.1 nd_x.2) pe_int) (pa_cons (pe_bin (os_powF hr tk) (pe_var (i := 0) rfl (Or.inl rfl) nd_x.1 nd_x.2) pe_int) (pa_cons (pe_bin (os_powF hr tk) (pe_var (i := 0) rfl (Or.inl rfl) nd_x.1 nd_x.2) pe_int) (pa_cons (pe_bin (os_powF hr tk) (pe_var (i := 0) rfl (Or.inl rfl) nd_x.1 nd_x.2) pe_int) (pa_cons (pe_bin (os_powF hr tk) (pe_var (i := 0) rfl (Or.inl rfl) nd_x.1 nd_x.2) pe_int) (pa_cons (pe_bin (os_powF hr tk) (pe_var (i := 0) rfl (Or.inl rfl) nd_x.1 nd_x.2) pe_int) pa_nil))))))))) (pss_cons (ps_set (i := 1) sc__law_all_powers.nd rfl (Or.inl rfl) (pe_bin (os_add hr tk) (pe_var (i := 1) rfl (Or.inl rfl) nd_told.1 nd_told.2) (pe_lst (pa_cons (pe_bin (os_powF hr tk) (pe_var (i := 0) rfl (Or.inl rfl) nd_x.1 nd_x.2) pe_int) (pa_cons (pe_bin (os_powF hr tk) (pe_var (i := 0) rfl (Or.inl rfl) nd_x.1 nd_x.2) pe_int) (pa_cons (pe_bin (os_powF hr tk) (pe_var (i := 0) rfl (Or.inl rfl) nd_x.1 nd_x.2) pe_int) (pa_cons (pe_bin (os_powF hr tk) (pe_var (i := 0) rfl (Or.inl rfl) nd_x.1 nd_x.2) pe_int) (pa_cons (pe_bin (os_powF hr tk) (pe_var (i := 0) rfl (Or.inl rfl) nd_x.1 nd_x.2) pe_int) (pa_cons (pe_bin (os_powF hr tk) (pe_var (i := 0) rfl (Or.inl rfl) nd_x.1 nd_x.2) pe_int) pa_nil))))))))) (pss_cons (ps_set (i := 1) sc__law_all_powers.nd rfl (Or.inl rfl) (pe_bin (os_add hr tk) (pe_var (i := 1) rfl (Or.inl rfl) nd_told.1 nd_told.2) (pe_lst (pa_cons (pe_bin (os_powF hr tk) (pe_var (i := 0) rfl (Or.inl rfl) nd_x.1 nd_x.2) pe_int) (pa_cons (pe_bin (os_powF hr tk) (pe_var (i := 0) rfl (Or.inl rfl) nd_x.1 nd_x.2) pe_int) (pa_cons (pe_bin (os_powF hr tk) (pe_var (i := 0) rfl (Or.inl rfl) nd_x.1 nd_x.2) pe_int) (pa_cons (pe_bin (os_powF hr tk) (pe_var (i := 0) rfl (Or.inl rfl) nd_x.1 nd_x.2) pe_int) (pa_cons (pe_bin (os_powF hr tk) (pe_var (i := 0) rfl (Or.inl rfl) nd_x.1 nd_x.2) pe_int) (pa_cons (pe_bin (os_powF hr tk) (pe_var (i := 0) rfl (Or.inl rfl) nd_x.1 nd_x.2) pe_int) pa_nil))))))))) (pss_cons (ps_set (i := 1) sc__law_all_powers.nd rfl (Or.inl rfl) (pe_bin (os_add hr tk) (pe_var (i := 1) rfl (Or.inl rfl) nd_told.1 nd_told.2) (pe_lst (pa_cons (pe_bin (os_powF hr tk) (pe_var (i := 0) rfl (Or.inl rfl) nd_x.1 nd_x.2) pe_int) (pa_cons (pe_bin (os_powF hr tk) (pe_var (i := 0) rfl (Or.inl rfl) nd_x.1 nd_x.2) pe_int) (pa_cons (pe_bin (os_powF hr tk) (pe_var (i := 0) rfl (Or.inl rfl) nd_x.1 nd_x.2) pe_int) (pa_cons (pe_bin (os_powF hr tk) (pe_var (i := 0) rfl (Or.inl rfl) nd_x.1 nd_x.2) pe_int) (pa_cons (pe_bin (os_powF hr tk) (pe_var (i := 0) rfl (Or.inl rfl) nd_x.1 nd_x.2) pe_int) (pa_cons (pe_bin (os_powF hr tk) (pe_var (i := 0) rfl (Or.inl rfl) nd_x.1 nd_x.2) pe_int) pa_nil))))))))) (pss_one (ps_ret (pe_bin (os_add hr tk) (pe_var (i := 1) rfl (Or.inl rfl) nd_told.1 nd_told.2) (pe_lst (pa_cons (pe_bin (os_powF hr tk) (pe_var (i := 0) rfl (Or.inl rfl) nd_x.1 nd_x.2) pe_int) (pa_cons (pe_bin (os_powF hr tk) (pe_var (i := 0) rfl (Or.inl rfl) nd_x.1 nd_x.2) pe_int) (pa_cons (pe_bin (os_powF hr tk) (pe_var (i := 0) rfl (Or.inl rfl) nd_x.1 nd_x.2) pe_int) (pa_cons (pe_bin (os_powF hr tk) (pe_var (i := 0) rfl (Or.inl rfl) nd_x.1 nd_x.2) pe_int) pa_nil)))))))))))))))))), ?_⟩)
  rintro ds m K E - ⟨x, rfl, hx, k⟩
  show Ws _ _ _ [some (rq C_Ratio x), none] _ _
  dsimp only [cx_G, cx_K]
  have qx : Qb 15000 x := hx.mono (by decide)
  walk_at "go_1"
  refine we_lstM ?_
  walk_at "go_1"
  intro p0 h0
  walk_at "go_1"
  iterate 9
    refine we_lstM ?_
    walk_at "go_1"
    intro p1 h1
    refine w2_catN rfl ?_
    intro p2 h2
    walk_at "go_1"
  refine we_lstM ?_
  walk_at "go_1"
  intro p1 h1
  refine w2_catM rfl ?_
  exact k
local macro_rules | `(tactic| walk_at "fld_2") => `(tactic| (with_reducible refine we_fldF ?_))
local macro_rules | `(tactic| walk_at "useWe_2") => `(tactic| first | (with_reducible refine we_app ?_) | (with_reducible refine we_mt ?_) | fail)
local macro_rules | `(tactic| walk_at "sWe_2") => `(tactic| first
  | ((with_reducible refine we_var (d := ?d) ?hv ?hk); case hv => rfl)
  | (with_reducible first
    | refine we_cint ?_ | refine we_2 ?_ | refine we_cl0 ?_ | refine we_tup ?_ | refine we_1 ?_ | refine we_c2 ?_ | refine we_cbl ?_ | refine we_cnon ?_ | refine we_cty ?_ | refine we_cref ?_
    | refine we_op ?_ | refine we_andV ?_ | refine we_orV ?_ | refine we_notV ?_ | refine we_3 ?_ | refine we_ifx ?_ | refine we_cstr ?_ | refine we_clH ?_)
  | walk_at "fld_2"
  | walk_at "useWe_2")
local macro_rules | `(tactic| walk_at "useW2_2") => `(tactic| fail)
local macro_rules | `(tactic| walk_at "sW2_2") => `(tactic| first
  | (with_reducible first
    | refine w2_add ?_ | refine w2_sub ?_ | refine w2_mul ⟨?_, ?_⟩ | refine w2_fdiv ⟨?_, ?_⟩ | refine w2_mod ⟨?_, ?_⟩ | refine w2_pow ⟨?_, ?_⟩ | refine w2_eqI ?_ | refine w2_neI ?_ | refine w2_lt ?_ | refine w2_le ?_ | refine w2_gt ?_ | refine w2_ge ?_ | refine w2_eqFI ?_ | refine w2_neFI ?_)
  | ((with_reducible refine w2_ixT (d := ?d) ⟨?hv, ?hk⟩); case hv => rfl)
  | ((with_reducible refine w2_ixL (d := ?d) ⟨?hv, ?hk⟩); case hv => rfl)
  | ((with_reducible refine w2_ixM (d := ?d) .head ⟨?hv, ?hk⟩); case hv => rfl)
  | (with_reducible first
    | refine w2_eqIH ?_ | refine w2_neIH ?_ | refine w2_mulH ⟨?_, ?_⟩ | refine w2_addH ?_ | refine w2_subH ?_ | refine w2_isN ?_ | refine w2_notN ?_ | refine w2_isB ?_ | refine w2_notB ?_)
  | walk_at "useW2_2")
local macro_rules | `(tactic| walk_at "sWa_2") => `(tactic| with_reducible first | refine wa_nil ?_ | refine wa_cons ?_)
local macro_rules | `(tactic| walk_at "useWs_2") => `(tactic| first | (with_reducible refine ws_rs0 ?_) | (with_reducible refine ws_rs ?_) | fail)
local macro_rules | `(tactic| walk_at "sWs_2") => `(tactic| first
  | (with_reducible first | refine ws_seq ?_ | refine ws_ret ?_ | refine ws_asg ?_ | refine ws_next ?_ | refine ws_drop ?_ | refine ws_par ?_ | refine ws_par3 ?_ | refine ws_fldN ?_ | refine ws_brk ?_ | refine ws_cont ?_)
  | walk_at "useWs_2")
local macro_rules | `(tactic| walk_at "sWt_2") => `(tactic| with_reducible first | refine wt_test ?_ | refine wt_tr ?_ | refine wt_and ?_ | refine wt_or ?_ | refine wt_not ?_)
local macro_rules | `(tactic| walk_at "useWc_2") => `(tactic| fail)
local macro_rules | `(tactic| walk_at "sWc_2") => `(tactic| first
  | (with_reducible first | refine wc_int ?_ | refine wc_abs ?_ | refine wc_min ?_ | refine wc_gcd ?_ | refine wc_isiT .int kit_ii ?_ | refine wc_isiT .int kit_ib ?_ | refine wc_len .lst ?_ | refine wc_len .tup ?_ | refine wc_strI ?_ ?_)
  | walk_at "useWc_2")
local macro_rules | `(tactic| walk_at "sWg_2") => `(tactic| with_reducible first | refine wg_name ?_ | refine wg_subM ?_ | refine wg_tup rfl ?_)
local macro_rules | `(tactic| walk_at "sW1_2") => `(tactic| first | (with_reducible refine w1_neg ?_) | walk_at "useW2_2")
local macro_rules | `(tactic| walk_at "sWgs_2") => `(tactic| with_reducible first | refine wgs_cons ?_ | refine wgs_nil ?_)
local macro_rules | `(tactic| walk_at "use_2") => `(tactic| first | (with_reducible refine mt_of0 (by assumption) (by decide) ?_) | (with_reducible refine use_is ?_ ?_ ?_) | (with_reducible refine use_graised (by assumption) ?_ ?_ ?_) | (with_reducible refine use_allp (by assumption) ?_) | fail)
local macro_rules | `(tactic| walk_at "sX_2") => `(tactic| first
  | (with_reducible refine ⟨_, rfl, ?_⟩)
  | (with_reducible refine fld_top (by assumption) ?_) | (with_reducible refine fld_bottom (by assumption) ?_)
  | (with_reducible refine ⟨_, .bl, ?_⟩)
  | ((with_reducible refine ⟨?h, ?_⟩); case h => rfl)
  | (with_reducible refine ⟨_, _, rfl, ?_⟩)
  | (with_reducible refine ⟨_, _, _, rfl, ?_⟩)
  | walk_at "use_2"
  | (with_reducible refine setN_top (by assumption) ?_) | (with_reducible refine setN_bottom (by assumption) ?_)
  | ((with_reducible refine ⟨_, _, _, ?j, _, rfl, rfl, .head, ?h, .head, ?_⟩); case h => rfl)
  | fail)
local macro_rules | `(tactic| walk_at "st_2") => `(tactic| first
  | ((with_reducible show We _ _ _ _ _ _); walk_at "sWe_2")
  | ((with_reducible show W2 _ _ _ _ _ _ _ _); walk_at "sW2_2")
  | ((with_reducible show Wa _ _ _ _ _ _); walk_at "sWa_2")
  | ((with_reducible show Ws _ _ _ _ _ _); walk_at "sWs_2")
  | ((with_reducible show Wt _ _ _ _ _ _); walk_at "sWt_2")
  | ((with_reducible show Wc _ _ _ _ _ _ _); walk_at "sWc_2")
  | ((with_reducible show Wg _ _ _ _ _ _ _); walk_at "sWg_2")
  | ((with_reducible show W1 _ _ _ _ _ _ _); walk_at "sW1_2")
  | ((with_reducible show Wgs _ _ _ _ _ _ _); walk_at "sWgs_2")
  | walk_at "sX_2" | fail)
local macro_rules | `(tactic| walk_at "wif_2") => `(tactic| (with_reducible refine ws_if ?_))
local macro_rules | `(tactic| walk_at "br_2") => `(tactic| ((with_reducible refine ⟨fun hb => ?_, fun hb => ?_⟩) <;> (try simp only [decide_eq_true_eq, decide_eq_false_iff_not, Bool.not_eq_true', Bool.not_eq_false', Bool.and_eq_true, Bool.or_eq_true, reduceCtorEq, List.length_map, Bool.not_true, Bool.not_false, DL.isNon, not_true_eq_false, not_false_eq_true, Classical.not_not, List.all_cons, List.all_nil, id_eq, Bool.and_self, Bool.true_and, decide_true, decide_false] at hb)))
local macro_rules | `(tactic| walk_at "go_2") => `(tactic| repeat' (first | walk_at "st_2" | walk_at "wif_2" | walk_at "br_2" | fail))
def S_greatp (C : Addr) : SpecD := fun ds m K _ => ∃ x n, ds = [rq C x, prq x, .int n] ∧ Qb 240 x ∧ 0 ≤ n ∧ n ≤ 64 ∧ K (.bl true) m
theorem use_greatp {C : Addr} {x : Rat} {n : Int} {m : Mu} {K : KT} {E : Ex → Mu → Prop} (hx : Qb 240 x) (h0 : 0 ≤ n) (h1 : n ≤ 64) (k : K (.bl true) m) : S_greatp C [rq C x, prq x, .int n] m K E := ⟨x, n, rfl, hx, h0, h1, k⟩
theorem ok_great_powers (T : Txt G C_Ratio C_ZeroBottom C_OutOfBounds C_CarryError) (m_Ratio_raised : Met G 3 C_Ratio ["top", "bottom"] "raised" 2 (S_graised C_Ratio C_OutOfBounds) []) (c__law_is : Cal G 1 "_law_is" 2 (S_is C_Ratio) []) (c__law_all_powers : Cal G 5 "_law_all_powers" 1 (S_allp C_Ratio) []) {f : Addr} {fd : FuncData} (F : L2.Fun G.K "_law_great_powers" "_law_great_powers" s__law_great_powers f fd) (b : L2.Binds G.K fd ["x", "a", "many"] []) : Fnx G 6 f 3 (S_greatp C_Ratio) [] := by
  refine fnx_of F sc__law_great_powers rfl b .nil rfl (fun cdv A outer s H FF hr tk => ⟨_, (pss_cons (ps_set (i := 3) sc__law_great_powers.nd rfl (Or.inl rfl) (pe_lst (pa_cons (pe_tup (pa_cons pe_int (pa_cons pe_int pa_nil))) pa_nil))) (pss_cons (ps_for (passes_of rfl) rfl (pi_range1 rfl T.n_range (pa_cons pe_int pa_nil)) (pg_name (i := 4) sc__law_great_powers.nd rfl (Or.inl rfl)) (pss_one (ps_expr (pe_bm PySem.F.plainAttrs_list PySem.F.slot_list_append PySem.F.type_list_append mt_append (pe_var (i := 3) rfl (Or.inl rfl) nd_own.1 nd_own.2) (pa_cons (pe_tup (pa_cons (pe_bin (os_mul hr tk) (pe_ix ix_seq (pe_ix ix_seq (pe_var (i := 3) rfl (Or.inl rfl) nd_own.1 nd_own.2) (pe_var (i := 4) rfl (Or.inl rfl) nd_k.1 nd_k.2) (fun _ _ => rfl)) pe_int (fun _ _ => rfl)) (pe_ix ix_seq (pe_var (i := 1) rfl (Or.inl rfl) nd_a.1 nd_a.2) pe_int (fun _ _ => rfl))) (pa_cons (pe_bin (os_mul hr tk) (pe_ix ix_seq (pe_ix ix_seq (pe_var (i := 3) rfl (Or.inl rfl) nd_own.1 nd_own.2) (pe_var (i := 4) rfl (Or.inl rfl) nd_k.1 nd_k.2) (fun _ _ => rfl)) pe_int (fun _ _ => rfl)) (pe_ix ix_seq (pe_var (i := 1) rfl (Or.inl rfl) nd_a.1 nd_a.2) pe_int (fun _ _ => rfl))) pa_nil))) pa_nil))))) (pss_cons (ps_set (i := 5) sc__law_great_powers.nd rfl (Or.inl rfl) (pe_cl c__law_all_powers hr (by decide) tk rfl (pa_cons (pe_var (i := 0) rfl (Or.inl rfl) nd_x.1 nd_x.2) pa_nil))) (pss_cons (ps_for (passes_of rfl) rfl (pi_range1 rfl T.n_range (pa_cons pe_int pa_nil)) (pg_name (i := 4) sc__law_great_powers.nd rfl (Or.inl rfl)) (pss_one (ps_if (pt_not (pt_tr (pe_cl c__law_is hr (by decide) tk rfl (pa_cons (pe_ix ix_seq (pe_var (i := 5) rfl (Or.inl rfl) nd_told.1 nd_told.2) (pe_var (i := 4) rfl (Or.inl rfl) nd_k.1 nd_k.2) (fun _ _ => rfl)) (pa_cons (pe_ix ix_seq (pe_var (i := 3) rfl (Or.inl rfl) nd_own.1 nd_own.2) (pe_var (i := 4) rfl (Or.inl rfl) nd_k.1 nd_k.2) (fun _ _ => rfl)) pa_nil))))) (pss_one (ps_ret pe_bl)) pss_nil))) (pss_one (ps_ret (pe_and (pe_cl c__law_is hr (by decide) tk rfl (pa_cons (pe_mth hr tk (pe_var (i := 0) rfl (Or.inl rfl) nd_x.1 nd_x.2) (pa_cons (pe_var (i := 2) rfl (Or.inl rfl) nd_many.1 nd_many.2) pa_nil)) (pa_cons (pe_ix ix_seq (pe_var (i := 3) rfl (Or.inl rfl) nd_own.1 nd_own.2) (pe_var (i := 2) rfl (Or.inl rfl) nd_many.1 nd_many.2) (fun _ _ => rfl)) pa_nil))) (pe_one (pe_cl c__law_is hr (by decide) tk rfl (pa_cons (pe_mth hr tk (pe_var (i := 0) rfl (Or.inl rfl) nd_x.1 nd_x.2) (pa_cons pe_int pa_nil)) (pa_cons (pe_ix ix_seq (pe_var (i := 3) rfl (Or.inl rfl) nd_own.1 nd_own.2) pe_int (fun _ _ => rfl)) pa_nil))))))))))), ?_⟩)
  rintro ds m K E - ⟨x, n, rfl, hx, h0, h1, k⟩
  obtain ⟨n, rfl⟩ := Int.eq_ofNat_of_zero_le h0
  show Ws _ _ _ [some (rq C_Ratio x), some (prq x), some (.int (n : Int)), none, none, none] _ _
  dsimp only [cx_G, cx_K]
  have qx : Qb 15000 x := hx.mono (by decide)
  let P : Nat → D := fun i => pr (x.num ^ i) ((x.den : Int) ^ i)
  walk_at "go_2"
  refine we_lstM ?_
  walk_at "go_2"
  intro w hw
  walk_at "go_2"
  refine ws_range1 ?_
  walk_at "go_2"
  refine ⟨64, fun i r' m' => ∃ o, m' = (w, .lst ((List.range (i + 1)).map P)) :: m ∧ r' = [some (rq C_Ratio x), some (prq x), some (.int (n : Int)), some (.ref w), o, none], rfl, by decide, ⟨none, ?_, rfl⟩, ?_, ?_⟩
  · show [(w, MO.lst [pr 1 1])] ++ m = [(w, MO.lst [pr (x.num ^ 0) ((x.den : Int) ^ 0)])] ++ m
    rw [Int.pow_zero, Int.pow_zero]
  · rintro i r' m' hi ⟨o, rfl, rfl⟩
    have hi' : i < 64 := hi
    have at_ : atI ((List.range (i + 1)).map P) (i : Int) = some (P i) := atI_nat (range_at (by omega))
    have l1 : i * 240 + 1 ≤ 20000 := by omega
    walk_at "go_2"
    refine ⟨w, _, rfl, .head, ?_⟩
    walk_at "go_2"
    refine w2_ixM .head ⟨at_, ?_⟩
    walk_at "go_2"
    · exact ((hx.t.pow i).mono l1).mulX hx.t (by decide)
    refine w2_ixM .head ⟨at_, ?_⟩
    walk_at "go_2"
    · exact ((hx.b.pow i).mono l1).mulX hx.b (by decide)
    refine ⟨_, _, _, rfl, .head, ?_, .head, ?_⟩
    · rw [List.length_map, List.length_range]
      omega
    walk_at "go_2"
    refine ⟨some (.int (i : Int)), ?_, rfl⟩
    have e : pr (x.num ^ i * x.num) ((x.den : Int) ^ i * (x.den : Int)) = P (i + 1) := prn
    rw [show (D.tup [D.int (x.num ^ i * x.num), D.int ((x.den : Int) ^ i * (x.den : Int))]) = P (i + 1) from e, range_snoc]
  · rintro r' m' ⟨o, rfl, rfl⟩
    show Ws _ _ _ _ _ _
    refine Ws.freeze (i := 3) rfl ?_
    walk_at "go_2"
    refine ws_range1 ?_
    walk_at "go_2"
    refine ⟨65, fun i r' m' => m' = m ∧ ∃ o, r' = [some (rq C_Ratio x), some (prq x), some (.int (n : Int)), some (.lst ((List.range 65).map P)), o, some (.lst ((List.range 65).map fun i => rq C_Ratio (x ^ i)))], rfl, by decide, ⟨rfl, _, rfl⟩, ?_, ?_⟩
    · rintro i r' m' hi ⟨rfl, o, rfl⟩
      have hi' : i < 65 := hi
      have a1 : atI ((List.range 65).map fun i => rq C_Ratio (x ^ i)) (i : Int) = some (rq C_Ratio (x ^ i)) := atI_nat (range_at (f := fun i => rq C_Ratio (x ^ i)) hi')
      have a2 : atI ((List.range 65).map P) (i : Int) = some (P i) := atI_nat (range_at hi')
      walk_at "go_2"
      refine w2_ixL ⟨a1, ?_⟩
      walk_at "go_2"
      refine w2_ixL ⟨a2, ?_⟩
      walk_at "go_2"
      all_goals first
        | exact Rat.num_pow x i
        | exact pow_den
        | exact ⟨_, rfl⟩
    · rintro r' m' ⟨rfl, o, rfl⟩
      have hn : n < 65 := by omega
      have a2 : atI ((List.range 65).map P) (n : Int) = some (P n) := atI_nat (range_at hn)
      have a3 : atI ((List.range 65).map P) 64 = some (P 64) := atI_nat (range_at (n := 65) (i := 64) (by decide))
      walk_at "go_2"
      all_goals try first
        | omega
        | decide
      refine w2_ixL ⟨a2, ?_⟩
      walk_at "go_2"
      all_goals first
        | (rw [Int.toNat_natCast]; exact Rat.num_pow x n)
        | (rw [Int.toNat_natCast]; exact pow_den)
        | decide
        | exact Rat.num_pow x 64
        | exact pow_den (n := 64)
        | exact k
/-! one fraction alone -/
local macro_rules | `(tactic| walk_at "fld_3") => `(tactic| (with_reducible refine we_fldF ?_))
local macro_rules | `(tactic| walk_at "useWe_3") => `(tactic| fail)
local macro_rules | `(tactic| walk_at "sWe_3") => `(tactic| first
  | ((with_reducible refine we_var (d := ?d) ?hv ?hk); case hv => rfl)
  | (with_reducible first
    | refine we_cint ?_ | refine we_2 ?_ | refine we_cl0 ?_ | refine we_tup ?_ | refine we_1 ?_ | refine we_c2 ?_ | refine we_cbl ?_ | refine we_cnon ?_ | refine we_cty ?_ | refine we_cref ?_
    | refine we_op ?_ | refine we_andV ?_ | refine we_orV ?_ | refine we_notV ?_ | refine we_3 ?_ | refine we_ifx ?_ | refine we_cstr ?_ | refine we_clH ?_)
  | walk_at "fld_3"
  | walk_at "useWe_3")
local macro_rules | `(tactic| walk_at "useW2_3") => `(tactic| first | (with_reducible refine w1_negO (by assumption) (by decide) .fixed ?_) | fail)
local macro_rules | `(tactic| walk_at "sW2_3") => `(tactic| first
  | (with_reducible first
    | refine w2_add ?_ | refine w2_sub ?_ | refine w2_mul ⟨?_, ?_⟩ | refine w2_fdiv ⟨?_, ?_⟩ | refine w2_mod ⟨?_, ?_⟩ | refine w2_pow ⟨?_, ?_⟩ | refine w2_eqI ?_ | refine w2_neI ?_ | refine w2_lt ?_ | refine w2_le ?_ | refine w2_gt ?_ | refine w2_ge ?_ | refine w2_eqFI ?_ | refine w2_neFI ?_)
  | ((with_reducible refine w2_ixT (d := ?d) ⟨?hv, ?hk⟩); case hv => rfl)
  | ((with_reducible refine w2_ixL (d := ?d) ⟨?hv, ?hk⟩); case hv => rfl)
  | ((with_reducible refine w2_ixM (d := ?d) .head ⟨?hv, ?hk⟩); case hv => rfl)
  | (with_reducible first
    | refine w2_eqIH ?_ | refine w2_neIH ?_ | refine w2_mulH ⟨?_, ?_⟩ | refine w2_addH ?_ | refine w2_subH ?_ | refine w2_isN ?_ | refine w2_notN ?_ | refine w2_isB ?_ | refine w2_notB ?_)
  | walk_at "useW2_3")
local macro_rules | `(tactic| walk_at "sWa_3") => `(tactic| with_reducible first | refine wa_nil ?_ | refine wa_cons ?_)
local macro_rules | `(tactic| walk_at "useWs_3") => `(tactic| first | (with_reducible refine ws_rs0 ?_) | (with_reducible refine ws_rs ?_) | fail)
local macro_rules | `(tactic| walk_at "sWs_3") => `(tactic| first
  | (with_reducible first | refine ws_seq ?_ | refine ws_ret ?_ | refine ws_asg ?_ | refine ws_next ?_ | refine ws_drop ?_ | refine ws_par ?_ | refine ws_par3 ?_ | refine ws_fldN ?_ | refine ws_brk ?_ | refine ws_cont ?_)
  | walk_at "useWs_3")
local macro_rules | `(tactic| walk_at "sWt_3") => `(tactic| with_reducible first | refine wt_test ?_ | refine wt_tr ?_ | refine wt_and ?_ | refine wt_or ?_ | refine wt_not ?_)
local macro_rules | `(tactic| walk_at "useWc_3") => `(tactic| first | (with_reducible refine wc_absI ?_) | (with_reducible refine wc_absO (by assumption) (by decide) .fixed ?_) | fail)
local macro_rules | `(tactic| walk_at "sWc_3") => `(tactic| first
  | (with_reducible first | refine wc_int ?_ | refine wc_abs ?_ | refine wc_min ?_ | refine wc_gcd ?_ | refine wc_isiT .int kit_ii ?_ | refine wc_isiT .int kit_ib ?_ | refine wc_len .lst ?_ | refine wc_len .tup ?_ | refine wc_strI ?_ ?_)
  | walk_at "useWc_3")
local macro_rules | `(tactic| walk_at "sWg_3") => `(tactic| with_reducible first | refine wg_name ?_ | refine wg_subM ?_ | refine wg_tup rfl ?_)
local macro_rules | `(tactic| walk_at "sW1_3") => `(tactic| first | (with_reducible refine w1_neg ?_) | walk_at "useW2_3")
local macro_rules | `(tactic| walk_at "sWgs_3") => `(tactic| with_reducible first | refine wgs_cons ?_ | refine wgs_nil ?_)
local macro_rules | `(tactic| walk_at "use_3") => `(tactic| first | (with_reducible refine use_is ?_ ?_ ?_) | (with_reducible refine use_gneg ?_) | (with_reducible refine use_gabs ?_) | (with_reducible refine use_four (by assumption) (by assumption) ?_) | (with_reducible refine use_smallp (by assumption) ?_) | fail)
local macro_rules | `(tactic| walk_at "sX_3") => `(tactic| first
  | (with_reducible refine ⟨_, rfl, ?_⟩)
  | (with_reducible refine fld_top (by assumption) ?_) | (with_reducible refine fld_bottom (by assumption) ?_)
  | (with_reducible refine ⟨_, .bl, ?_⟩)
  | ((with_reducible refine ⟨?h, ?_⟩); case h => rfl)
  | (with_reducible refine ⟨_, _, rfl, ?_⟩)
  | (with_reducible refine ⟨_, _, _, rfl, ?_⟩)
  | walk_at "use_3"
  | (with_reducible refine setN_top (by assumption) ?_) | (with_reducible refine setN_bottom (by assumption) ?_)
  | ((with_reducible refine ⟨_, _, _, ?j, _, rfl, rfl, .head, ?h, .head, ?_⟩); case h => rfl)
  | fail)
local macro_rules | `(tactic| walk_at "st_3") => `(tactic| first
  | ((with_reducible show We _ _ _ _ _ _); walk_at "sWe_3")
  | ((with_reducible show W2 _ _ _ _ _ _ _ _); walk_at "sW2_3")
  | ((with_reducible show Wa _ _ _ _ _ _); walk_at "sWa_3")
  | ((with_reducible show Ws _ _ _ _ _ _); walk_at "sWs_3")
  | ((with_reducible show Wt _ _ _ _ _ _); walk_at "sWt_3")
  | ((with_reducible show Wc _ _ _ _ _ _ _); walk_at "sWc_3")
  | ((with_reducible show Wg _ _ _ _ _ _ _); walk_at "sWg_3")
  | ((with_reducible show W1 _ _ _ _ _ _ _); walk_at "sW1_3")
  | ((with_reducible show Wgs _ _ _ _ _ _ _); walk_at "sWgs_3")
  | walk_at "sX_3" | fail)
local macro_rules | `(tactic| walk_at "wif_3") => `(tactic| (with_reducible refine ws_if ?_))
local macro_rules | `(tactic| walk_at "br_3") => `(tactic| ((with_reducible refine ⟨fun hb => ?_, fun hb => ?_⟩) <;> (try simp only [decide_eq_true_eq, decide_eq_false_iff_not, Bool.not_eq_true', Bool.not_eq_false', Bool.and_eq_true, Bool.or_eq_true, reduceCtorEq, List.length_map, Bool.not_true, Bool.not_false, DL.isNon, not_true_eq_false, not_false_eq_true, Classical.not_not, List.all_cons, List.all_nil, id_eq, Bool.and_self, Bool.true_and, decide_true, decide_false] at hb)))
local macro_rules | `(tactic| walk_at "go_3") => `(tactic| repeat' (first | walk_at "st_3" | walk_at "wif_3" | walk_at "br_3" | fail))
theorem qabs_num {x : Rat} : (qabs x).num = (x.num.natAbs : Int) ∧ ((qabs x).den : Int) = x.den := by
  unfold qabs
  have r := rT_dv (t := (x.num.natAbs : Int)) (b := (x.den : Int)) (den_ne x)
  have l := rat_low (t := (x.num.natAbs : Int)) (b := (x.den : Int)) (den_pos x) (by rw [Int.natAbs_natCast, Int.natAbs_natCast]; exact x.reduced)
  exact ⟨r.1.symm.trans l.1, r.2.symm.trans l.2⟩
def S_alone (C : Addr) : SpecD := fun ds m K _ => ∃ x, ds = [rq C x, prq x] ∧ Qb 240 x ∧ K (.bl true) m
theorem use_alone {C : Addr} {x : Rat} {m : Mu} {K : KT} {E : Ex → Mu → Prop} (hx : Qb 240 x) (k : K (.bl true) m) : S_alone C [rq C x, prq x] m K E := ⟨x, rfl, hx, k⟩
theorem ok_alone (T : Txt G C_Ratio C_ZeroBottom C_OutOfBounds C_CarryError) (o_Ratio___neg__ : Opr G 3 C_Ratio "__neg__" 1 (S_gneg C_Ratio)) (o_Ratio___abs__ : Opr G 3 C_Ratio "__abs__" 1 (S_gabs C_Ratio)) (c__law_is : Cal G 1 "_law_is" 2 (S_is C_Ratio) []) (c__law_four : Cal G 5 "_law_four" 4 (S_four C_Ratio) []) (c__law_small_powers : Cal G 5 "_law_small_powers" 2 (S_smallp C_Ratio) []) {f : Addr} {fd : FuncData} (F : L2.Fun G.K "_law_alone" "_law_alone" s__law_alone f fd) (b : L2.Binds G.K fd ["x", "a"] []) : Fnx G 6 f 2 (S_alone C_Ratio) [] := by
  refine fnx_of F sc__law_alone rfl b .nil rfl (fun cdv A outer s H FF hr tk => ⟨_, (pss_cons (ps_if (PW.pt (pw_or (pt_not (pt_tr (pe_cl c__law_is hr (by decide) tk rfl (pa_cons (pe_var (i := 0) rfl (Or.inl rfl) nd_x.1 nd_x.2) (pa_cons (pe_var (i := 1) rfl (Or.inl rfl) nd_a.1 nd_a.2) pa_nil))))) (pw_or1 (pt_not (pt_tr (pe_cl c__law_is hr (by decide) tk rfl (pa_cons (pe_una (us_neg hr tk) (pe_var (i := 0) rfl (Or.inl rfl) nd_x.1 nd_x.2)) (pa_cons (pe_tup (pa_cons (pe_una (us_neg hr tk) (pe_ix ix_seq (pe_var (i := 1) rfl (Or.inl rfl) nd_a.1 nd_a.2) pe_int (fun _ _ => rfl))) (pa_cons (pe_ix ix_seq (pe_var (i := 1) rfl (Or.inl rfl) nd_a.1 nd_a.2) pe_int (fun _ _ => rfl)) pa_nil))) pa_nil)))))))) (pss_one (ps_ret pe_bl)) pss_nil) (pss_cons (ps_if (pt_not (pt_tr (pe_cl c__law_is hr (by decide) tk rfl (pa_cons (pe_cb (cs_absO hr tk) rfl T.n_abs bt_abs (pa_cons (pe_var (i := 0) rfl (Or.inl rfl) nd_x.1 nd_x.2) pa_nil)) (pa_cons (pe_tup (pa_cons (pe_cb (cs_absO hr tk) rfl T.n_abs bt_abs (pa_cons (pe_ix ix_seq (pe_var (i := 1) rfl (Or.inl rfl) nd_a.1 nd_a.2) pe_int (fun _ _ => rfl)) pa_nil)) (pa_cons (pe_ix ix_seq (pe_var (i := 1) rfl (Or.inl rfl) nd_a.1 nd_a.2) pe_int (fun _ _ => rfl)) pa_nil))) pa_nil))))) (pss_one (ps_ret pe_bl)) pss_nil) (pss_one (ps_ret (pe_and (pe_cl c__law_four hr (by decide) tk rfl (pa_cons (pe_var (i := 0) rfl (Or.inl rfl) nd_x.1 nd_x.2) (pa_cons (pe_var (i := 0) rfl (Or.inl rfl) nd_x.1 nd_x.2) (pa_cons (pe_var (i := 1) rfl (Or.inl rfl) nd_a.1 nd_a.2) (pa_cons (pe_var (i := 1) rfl (Or.inl rfl) nd_a.1 nd_a.2) pa_nil))))) (pe_one (pe_cl c__law_small_powers hr (by decide) tk rfl (pa_cons (pe_var (i := 0) rfl (Or.inl rfl) nd_x.1 nd_x.2) (pa_cons (pe_var (i := 1) rfl (Or.inl rfl) nd_a.1 nd_a.2) pa_nil))))))))), ?_⟩)
  rintro ds m K E - ⟨x, rfl, hx, k⟩
  show Ws _ _ _ [some (rq C_Ratio x), some (prq x)] _ _
  dsimp only [cx_G, cx_K]
  walk_at "go_3"
  all_goals first
    | rfl
    | exact qabs_num.1
    | exact qabs_num.2
    | exact k
    | skip
end
end K01
set_option Elab.async false
set_option linter.all false
/-! M04: the simplest fraction between two: the plain laws of k04. -/
namespace K04
open DL
/-- the parents of t / n stand outside of low .. high -/
structure Sim (lT lB hT hB t n : Int) : Prop where
  t0 : 0 < t
  n0 : 0 < n
  lo : lT * n ≤ t * lB
  hi : t * hB ≤ hT * n
  par : ∃ a b c d : Int, t = a + c ∧ n = b + d ∧ c * b - a * d = 1 ∧ 0 ≤ a ∧ 0 ≤ d ∧ 1 ≤ b ∧ 1 ≤ c ∧ a * lB < lT * b ∧ hT * d < c * hB
theorem sim_base {lT lB hT hB t : Int} (h0 : 0 < lT) (h1 : 0 < lB) (h2 : 0 < hB) (e1 : lT ≤ t * lB) (e2 : (t - 1) * lB < lT) (e3 : t * hB ≤ hT) : Sim lT lB hT hB t 1 := by
  have ht : 0 < t := Int.lt_of_not_ge fun z => by
    have := Int.mul_le_mul_of_nonneg_right z (Int.le_of_lt h1)
    rw [Int.zero_mul] at this
    omega
  exact ⟨ht, by decide, by omega, by omega, t - 1, 1, 1, 0, by omega, by omega, by omega, by omega, by omega, by omega, by omega, by omega, by omega⟩
theorem sim_step {lT lB hT hB q t n : Int} (hq : 0 ≤ q) (h : Sim hB (hT - q * hB) lB (lT - q * lB) t n) : Sim lT lB hT hB (q * t + n) t := by
  obtain ⟨t0, n0, lo, hi, a, b, c, d, et, en, det, ha, hd, hb, hc, hl, hh⟩ := h
  have x1 : 0 ≤ q * t := Int.mul_nonneg hq (Int.le_of_lt t0)
  have x2 : 0 ≤ q * c := Int.mul_nonneg hq (by omega)
  have x3 : 0 ≤ q * a := Int.mul_nonneg hq ha
  refine ⟨by omega, t0, ?_, ?_, q * c + d, c, q * a + b, a, ?_, by omega, ?_, by omega, ha, hc, by omega, ?_, ?_⟩
  · grind
  · grind
  · grind
  · grind
  · grind
  · grind
/-- what lies between the parents has no lesser bottom -/
theorem den_ge {a b c d x m : Int} (det : c * b - a * d = 1) (hb : 0 ≤ b) (hd : 0 ≤ d) (h1 : a * m < x * b) (h2 : x * d < c * m) : b + d ≤ m := by
  have e1 : 1 ≤ x * b - a * m := by omega
  have e2 : 1 ≤ c * m - x * d := by omega
  have y1 : d * 1 ≤ d * (x * b - a * m) := Int.mul_le_mul_of_nonneg_left e1 hd
  have y2 : b * 1 ≤ b * (c * m - x * d) := Int.mul_le_mul_of_nonneg_left e2 hb
  have e : d * (x * b - a * m) + b * (c * m - x * d) = (c * b - a * d) * m := by grind
  rw [det] at e
  omega
theorem Sim.den {lT lB hT hB t n : Int} (h : Sim lT lB hT hB t n) (hlh : lT * hB ≤ hT * lB) (h1 : 0 < lB) (h2 : 0 < hB) : n ≤ lB := by
  obtain ⟨t0, n0, lo, hi, a, b, c, d, et, en, det, ha, hd, hb, hc, hl, hh⟩ := h
  rw [en]
  refine den_ge (x := lT) det (by omega) hd hl ?_
  refine Int.lt_of_mul_lt_mul_right (a := hB) ?_ (Int.le_of_lt h2)
  have y1 : lT * hB * d ≤ hT * lB * d := Int.mul_le_mul_of_nonneg_right hlh hd
  have y2 : lB * (hT * d) < lB * (c * hB) := Int.mul_lt_mul_of_pos_left hh h1
  grind
end K04
set_option Elab.async false
set_option linter.all false
/-! M04b: the walk down to the simplest fraction ends soon. -/
namespace K04
open DL
structure Run (a k : Nat) (lT lB hT hB : Int) : Prop where
  t0 : 0 < lT
  b0 : 0 < lB
  c0 : 0 < hB
  le : lT * hB ≤ hT * lB
  w1 : Bd a lT
  w2 : Bd a lB
  w3 : Bd a hT
  w4 : Bd a hB
  few : k = 0 ∨ (1 ≤ k ∧ lB ≤ lT ∧ hB ≤ hT ∧ 2 ^ (k - 1) * ((lT + hT) * (lB + hB)) ≤ 2 ^ (2 * a + 2))
theorem Run.h0 {a k : Nat} {lT lB hT hB : Int} (r : Run a k lT lB hT hB) : 0 < hT := Int.lt_of_not_ge fun z => by
  have h1 : 0 < lT * hB := Int.mul_pos r.t0 r.c0
  have h2 : hT * lB ≤ 0 := Int.mul_nonpos_of_nonpos_of_nonneg z (Int.le_of_lt r.b0)
  have := r.le
  omega
theorem Run.len {a k : Nat} {lT lB hT hB : Int} (r : Run a k lT lB hT hB) : k ≤ 2 * a + 3 := by
  have hh := r.h0
  obtain ⟨t0, b0, c0, le, w1, w2, w3, w4, few⟩ := r
  rcases few with rfl | ⟨h1, h2, h3, h4⟩
  · omega
  · have y : 1 ≤ (lT + hT) * (lB + hB) := Int.mul_pos (by omega) (by omega)
    have p0 : (0 : Int) ≤ 2 ^ (k - 1) := Int.pow_nonneg (by decide)
    have y2 : (2 : Int) ^ (k - 1) * 1 ≤ 2 ^ (k - 1) * ((lT + hT) * (lB + hB)) := Int.mul_le_mul_of_nonneg_left y p0
    have y3 : (2 : Int) ^ (k - 1) ≤ 2 ^ (2 * a + 2) := by omega
    have y4 : 2 ^ (k - 1) ≤ 2 ^ (2 * a + 2) := by exact_mod_cast y3
    have := (Nat.pow_le_pow_iff_right (by decide : 1 < 2)).mp y4
    omega
theorem quot {x y : Int} (h : 0 < y) : ∃ r, x = x.fdiv y * y + r ∧ 0 ≤ r ∧ r < y := by
  refine ⟨x % y, ?_, Int.emod_nonneg _ (by omega), Int.emod_lt_of_pos _ h⟩
  rw [Int.fdiv_eq_ediv_of_nonneg _ (by omega)]
  have := Int.mul_ediv_add_emod x y
  rw [Int.mul_comm] at this
  omega
theorem bd_lt {a : Nat} {x y : Int} (h : Bd a y) (h0 : 0 ≤ x) (l : x ≤ y) : Bd a x := by
  unfold Bd at *
  omega
theorem le_lt {q p y : Int} (h : 0 < y) (e : q * y < (p + 1) * y) : q ≤ p := by
  have := Int.lt_of_mul_lt_mul_right e (Int.le_of_lt h)
  omega
theorem ceil {x y : Int} (h : 0 < y) : ∃ r, x = -((-x).fdiv y) * y - r ∧ 0 ≤ r ∧ r < y := by
  obtain ⟨r, e, h1, h2⟩ := quot (x := -x) h
  exact ⟨r, by rw [Int.neg_mul]; omega, h1, h2⟩
theorem run_step {a k : Nat} {lT lB hT hB : Int} (r : Run a k lT lB hT hB) (h : hT.fdiv hB < -((-lT).fdiv lB)) :
    0 ≤ lT.fdiv lB ∧ Bd a (lT.fdiv lB) ∧ Run a (k + 1) hB (hT - lT.fdiv lB * hB) lB (lT - lT.fdiv lB * lB) ∧ hT - lT.fdiv lB * hB < hB ∧ lT - lT.fdiv lB * lB < lB := by
  have hh := r.h0
  obtain ⟨t0, b0, c0, le, w1, w2, w3, w4, few⟩ := r
  obtain ⟨r1, e1, r10, r11⟩ := quot (x := lT) b0
  obtain ⟨r2, e2, r20, r21⟩ := quot (x := hT) c0
  obtain ⟨r3, e3, r30, r31⟩ := ceil (x := lT) b0
  generalize lT.fdiv lB = q at *
  generalize hT.fdiv hB = p at *
  generalize -((-lT).fdiv lB) = c at *
  have hq0 : 0 ≤ q := Int.le_of_lt_add_one (Int.lt_of_not_ge fun z => by
    have : (q + 1) * lB ≤ 0 := Int.mul_nonpos_of_nonpos_of_nonneg z (Int.le_of_lt b0)
    have e : (q + 1) * lB = q * lB + lB := by rw [Int.add_mul, Int.one_mul]
    omega)
  have qp : q ≤ p := by
    refine le_lt (y := lB * hB) (Int.mul_pos b0 c0) ?_
    have x1 : q * lB * hB ≤ lT * hB := Int.mul_le_mul_of_nonneg_right (by omega) (Int.le_of_lt c0)
    have x2 : hT * lB < (p + 1) * hB * lB := Int.mul_lt_mul_of_pos_right (by rw [Int.add_mul, Int.one_mul]; omega) b0
    have x3 : q * (lB * hB) = q * lB * hB := by ac_rfl
    have x4 : (p + 1) * (lB * hB) = (p + 1) * hB * lB := by ac_rfl
    omega
  have cq : c ≤ q + 1 := by
    refine le_lt b0 ?_
    have : (q + 1 + 1) * lB = q * lB + lB + lB := by rw [Int.add_mul, Int.add_mul, Int.one_mul]
    omega
  have pq : p = q := by omega
  subst pq
  have l1 : 0 < lT - p * lB := by
    have c1 : c = p + 1 := by omega
    rw [c1] at e3
    have : (p + 1) * lB = p * lB + lB := by rw [Int.add_mul, Int.one_mul]
    omega
  have le' : hB * (lT - p * lB) ≤ lB * (hT - p * hB) := by
    have e : lB * (hT - p * hB) - hB * (lT - p * lB) = hT * lB - lT * hB := by grind
    omega
  have h1 : 0 < hT - p * hB := Int.lt_of_not_ge fun z => by
    have y1 : 0 < hB * (lT - p * lB) := Int.mul_pos c0 l1
    have y2 : lB * (hT - p * hB) ≤ 0 := Int.mul_nonpos_of_nonneg_of_nonpos (Int.le_of_lt b0) z
    omega
  have hql : p ≤ lT := by
    have : p * 1 ≤ p * lB := Int.mul_le_mul_of_nonneg_left b0 hq0
    omega
  refine ⟨hq0, bd_lt w1 hq0 hql, ⟨c0, h1, l1, ?_, w4, bd_lt w4 (by omega) (by omega), w2, bd_lt w2 (by omega) (by omega), .inr ⟨by omega, by omega, by omega, ?_⟩⟩, by omega, by omega⟩
  · exact le'
  · show 2 ^ (k + 1 - 1) * ((hB + lB) * (hT - p * hB + (lT - p * lB))) ≤ 2 ^ (2 * a + 2)
    rw [show k + 1 - 1 = k from rfl]
    rcases few with rfl | ⟨g1, g2, g3, g4⟩
    · have s1 : (hB + lB) * (hT - p * hB + (lT - p * lB)) ≤ (hB + lB) * (hB + lB) := Int.mul_le_mul_of_nonneg_left (by omega) (by omega)
      have hs : hB + lB ≤ 2 ^ (a + 1) := by
        unfold Bd at w2 w4
        have v1 : (hB.natAbs : Int) < ((2 ^ a : Nat) : Int) := by exact_mod_cast w4
        have v2 : (lB.natAbs : Int) < ((2 ^ a : Nat) : Int) := by exact_mod_cast w2
        have v3 : (2 : Int) ^ (a + 1) = 2 * ((2 ^ a : Nat) : Int) := by
          rw [Int.pow_succ, Int.mul_comm]
          norm_cast
        omega
      have s2 : (hB + lB) * (hB + lB) ≤ 2 ^ (a + 1) * 2 ^ (a + 1) := Int.le_trans (Int.mul_le_mul_of_nonneg_left hs (by omega)) (Int.mul_le_mul_of_nonneg_right hs (Int.pow_nonneg (by decide)))
      have s3 : (2 : Int) ^ (2 * a + 2) = 2 ^ (a + 1) * 2 ^ (a + 1) := by
        rw [← Int.pow_add]
        congr 1
        omega
      rw [Int.pow_zero, Int.one_mul]
      omega
    · have q1 : 1 ≤ p := by
        have : ¬ p = 0 := fun z => by
          subst z
          omega
        omega
      have two : 2 * (hT - p * hB + (lT - p * lB)) ≤ lT + hT := by
        have y1 : 1 * hB ≤ p * hB := Int.mul_le_mul_of_nonneg_right q1 (Int.le_of_lt c0)
        have y2 : 1 * lB ≤ p * lB := Int.mul_le_mul_of_nonneg_right q1 (Int.le_of_lt b0)
        omega
      have e : (2 : Int) ^ k = 2 ^ (k - 1) * 2 := by
        rw [← Int.pow_succ]
        congr 1
        omega
      have y3 : (hB + lB) * (2 * (hT - p * hB + (lT - p * lB))) ≤ (hB + lB) * (lT + hT) := Int.mul_le_mul_of_nonneg_left two (by omega)
      have y4 : (2 : Int) ^ (k - 1) * ((hB + lB) * (2 * (hT - p * hB + (lT - p * lB)))) ≤ 2 ^ (k - 1) * ((hB + lB) * (lT + hT)) := Int.mul_le_mul_of_nonneg_left y3 (Int.pow_nonneg (by decide))
      have e5 : (2 : Int) ^ k * ((hB + lB) * (hT - p * hB + (lT - p * lB))) = 2 ^ (k - 1) * ((hB + lB) * (2 * (hT - p * hB + (lT - p * lB)))) := by
        rw [e]
        ac_rfl
      have e6 : (2 : Int) ^ (k - 1) * ((hB + lB) * (lT + hT)) = 2 ^ (k - 1) * ((lT + hT) * (lB + hB)) := by
        rw [Int.add_comm hB lB, Int.mul_comm (lB + hB)]
      omega
theorem run_base {a k : Nat} {lT lB hT hB : Int} (r : Run a k lT lB hT hB) (h : ¬ hT.fdiv hB < -((-lT).fdiv lB)) : Sim lT lB hT hB (-((-lT).fdiv lB)) 1 := by
  obtain ⟨r2, e2, r20, r21⟩ := quot (x := hT) r.c0
  obtain ⟨r3, e3, r30, r31⟩ := ceil (x := lT) r.b0
  generalize hT.fdiv hB = p at *
  generalize -((-lT).fdiv lB) = c at *
  refine sim_base r.t0 r.b0 r.c0 (by omega) ?_ ?_
  · rw [Int.sub_mul, Int.one_mul]
    omega
  · have : c * hB ≤ p * hB := Int.mul_le_mul_of_nonneg_right (by omega) (Int.le_of_lt r.c0)
    omega
/-- the parts that the walk keeps -/
inductive Ch (a : Nat) (w x y z : Int) : List Int → Int → Int → Int → Int → Prop
  | nil (r : Run a 0 w x y z) : Ch a w x y z [] w x y z
  | snoc {P : List Int} {lT lB hT hB q : Int} (c : Ch a w x y z P lT lB hT hB) (hq : 0 ≤ q) (bq : Bd a q) (r : Run a (P.length + 1) hB (hT - q * hB) lB (lT - q * lB)) : Ch a w x y z (P ++ [q]) hB (hT - q * hB) lB (lT - q * lB)
theorem Ch.run {a : Nat} {w x y z : Int} {P : List Int} {lT lB hT hB : Int} (c : Ch a w x y z P lT lB hT hB) : Run a P.length lT lB hT hB := by
  cases c with
  | nil r => exact r
  | snoc c hq bq r =>
    rw [List.length_append]
    exact r
theorem Ch.back {a : Nat} {w x y z : Int} {P R : List Int} {lT lB hT hB q t n : Int} (c : Ch a w x y z P lT lB hT hB) (e : q :: R = P.reverse) (s : Sim lT lB hT hB t n) :
    0 ≤ q ∧ Bd a q ∧ ∃ P' l1 l2 h1 h2, Ch a w x y z P' l1 l2 h1 h2 ∧ R = P'.reverse ∧ Sim l1 l2 h1 h2 (q * t + n) t := by
  cases c with
  | nil r => cases e
  | snoc c hq bq r =>
    rw [List.reverse_append] at e
    have e' : q = _ ∧ R = _ := List.cons.inj e
    obtain ⟨e1, e2⟩ := e'
    subst e1
    exact ⟨hq, bq, _, _, _, _, _, c, e2, sim_step hq s⟩
theorem Ch.fin {a : Nat} {w x y z : Int} {P : List Int} {lT lB hT hB t n : Int} (c : Ch a w x y z P lT lB hT hB) (e : [] = P.reverse) (s : Sim lT lB hT hB t n) : Sim w x y z t n := by
  cases c with
  | nil r => exact s
  | snoc c hq bq r => simp at e
theorem Sim.gcd {lT lB hT hB t n : Int} (s : Sim lT lB hT hB t n) : Nat.gcd t.natAbs n.natAbs = 1 := by
  obtain ⟨t0, n0, lo, hi, a, b, c, d, et, en, det, _⟩ := s
  have e : t * b - a * n = 1 := by grind
  have g1 : ((Nat.gcd t.natAbs n.natAbs : Nat) : Int) ∣ t := Int.ofNat_dvd_left.mpr (Nat.gcd_dvd_left _ _)
  have g2 : ((Nat.gcd t.natAbs n.natAbs : Nat) : Int) ∣ n := Int.ofNat_dvd_left.mpr (Nat.gcd_dvd_right _ _)
  have g3 : ((Nat.gcd t.natAbs n.natAbs : Nat) : Int) ∣ 1 := by
    rw [← e]
    exact Int.dvd_sub (Int.dvd_mul_of_dvd_left g1) (Int.dvd_mul_of_dvd_right g2)
  have := Int.le_of_dvd (by decide) g3
  have p : 0 < Nat.gcd t.natAbs n.natAbs := Nat.gcd_pos_of_pos_left _ (by omega)
  omega
theorem Sim.bd {a k : Nat} {lT lB hT hB t n : Int} (s : Sim lT lB hT hB t n) (r : Run a k lT lB hT hB) : Bd a n ∧ Bd (a + a) t := by
  have d := s.den r.le r.b0 r.c0
  have hn : Bd a n := bd_lt r.w2 (Int.le_of_lt s.n0) d
  refine ⟨hn, bd_lt (r.w3.mul hn) (Int.le_of_lt s.t0) ?_⟩
  have : t * 1 ≤ t * hB := Int.mul_le_mul_of_nonneg_left r.c0 (Int.le_of_lt s.t0)
  have := s.hi
  omega
end K04
set_option Elab.async false
set_option linter.all false
set_option maxRecDepth 100000
set_option maxHeartbeats 4000000
namespace K01
open PySem PySem.Spec L2 DL
open PyProof.Rows hiding St
open K04
/-! one step, by the goal's head -/

/-! Ratio and Span by numbers: their promises used -/

section
variable {G : Gx} {C_Ratio C_ZeroBottom C_OutOfBounds C_CarryError : Addr}
def S_above (C : Addr) : SpecD := fun ds m K _ => ∃ N lT lB hT hB, ds = [rat C lT lB, rat C hT hB] ∧ N ≤ 4000 ∧ Run N 0 lT lB hT hB ∧ ∀ t n, Sim lT lB hT hB t n → K (rq C (dv t n)) m
def fAbove : Rho → Mu → Nat := fun r _ => match r[3]?, r[5]? with
  | some (some (D.int a)), some (some (D.int b)) => a.toNat + b.toNat
  | _, _ => 0
local macro_rules | `(tactic| walk_at "fld_1") => `(tactic| (with_reducible refine we_fldF ?_))
local macro_rules | `(tactic| walk_at "useWe_1") => `(tactic| first | (with_reducible refine we_ratG ?_) | fail)
local macro_rules | `(tactic| walk_at "sWe_1") => `(tactic| first
  | ((with_reducible refine we_var (d := ?d) ?hv ?hk); case hv => rfl)
  | (with_reducible first
    | refine we_cint ?_ | refine we_2 ?_ | refine we_cl0 ?_ | refine we_tup ?_ | refine we_1 ?_ | refine we_c2 ?_ | refine we_cbl ?_ | refine we_cnon ?_ | refine we_cty ?_ | refine we_cref ?_
    | refine we_op ?_ | refine we_andV ?_ | refine we_orV ?_ | refine we_notV ?_ | refine we_3 ?_ | refine we_ifx ?_ | refine we_cstr ?_ | refine we_clH ?_)
  | walk_at "fld_1"
  | walk_at "useWe_1")
local macro_rules | `(tactic| walk_at "useW2_1") => `(tactic| first
  | (with_reducible refine w2_addO (by assumption) (by decide) .fixed .fixed ?_) | (with_reducible refine w2_subO (by assumption) (by decide) .fixed .fixed ?_) | (with_reducible refine w2_mulO (by assumption) (by decide) .fixed .fixed ?_) | (with_reducible refine w1_negO (by assumption) (by decide) .fixed ?_) | (with_reducible refine w2_inO (by assumption) (by decide) .fixed ?_) | fail)
local macro_rules | `(tactic| walk_at "sW2_1") => `(tactic| first
  | (with_reducible first
    | refine w2_add ?_ | refine w2_sub ?_ | refine w2_mul ⟨?_, ?_⟩ | refine w2_fdiv ⟨?_, ?_⟩ | refine w2_mod ⟨?_, ?_⟩ | refine w2_pow ⟨?_, ?_⟩ | refine w2_eqI ?_ | refine w2_neI ?_ | refine w2_lt ?_ | refine w2_le ?_ | refine w2_gt ?_ | refine w2_ge ?_ | refine w2_eqFI ?_ | refine w2_neFI ?_)
  | ((with_reducible refine w2_ixT (d := ?d) ⟨?hv, ?hk⟩); case hv => rfl)
  | ((with_reducible refine w2_ixL (d := ?d) ⟨?hv, ?hk⟩); case hv => rfl)
  | ((with_reducible refine w2_ixM (d := ?d) .head ⟨?hv, ?hk⟩); case hv => rfl)
  | (with_reducible first
    | refine w2_eqIH ?_ | refine w2_neIH ?_ | refine w2_mulH ⟨?_, ?_⟩ | refine w2_addH ?_ | refine w2_subH ?_ | refine w2_isN ?_ | refine w2_notN ?_ | refine w2_isB ?_ | refine w2_notB ?_)
  | walk_at "useW2_1")
local macro_rules | `(tactic| walk_at "sWa_1") => `(tactic| with_reducible first | refine wa_nil ?_ | refine wa_cons ?_)
local macro_rules | `(tactic| walk_at "useWs_1") => `(tactic| first | (with_reducible refine ws_rs0 ?_) | (with_reducible refine ws_rs ?_) | fail)
local macro_rules | `(tactic| walk_at "sWs_1") => `(tactic| first
  | (with_reducible first | refine ws_seq ?_ | refine ws_ret ?_ | refine ws_asg ?_ | refine ws_next ?_ | refine ws_drop ?_ | refine ws_par ?_ | refine ws_par3 ?_ | refine ws_fldN ?_ | refine ws_brk ?_ | refine ws_cont ?_)
  | walk_at "useWs_1")
local macro_rules | `(tactic| walk_at "sWt_1") => `(tactic| with_reducible first | refine wt_test ?_ | refine wt_tr ?_ | refine wt_and ?_ | refine wt_or ?_ | refine wt_not ?_)
local macro_rules | `(tactic| walk_at "useWc_1") => `(tactic| fail)
local macro_rules | `(tactic| walk_at "sWc_1") => `(tactic| first
  | (with_reducible first | refine wc_int ?_ | refine wc_abs ?_ | refine wc_min ?_ | refine wc_gcd ?_ | refine wc_isiT .int kit_ii ?_ | refine wc_isiT .int kit_ib ?_ | refine wc_len .lst ?_ | refine wc_len .tup ?_ | refine wc_strI ?_ ?_)
  | walk_at "useWc_1")
local macro_rules | `(tactic| walk_at "sWg_1") => `(tactic| with_reducible first | refine wg_name ?_ | refine wg_subM ?_ | refine wg_tup rfl ?_)
local macro_rules | `(tactic| walk_at "sW1_1") => `(tactic| first | (with_reducible refine w1_neg ?_) | walk_at "useW2_1")
local macro_rules | `(tactic| walk_at "sWgs_1") => `(tactic| with_reducible first | refine wgs_cons ?_ | refine wgs_nil ?_)
local macro_rules | `(tactic| walk_at "use_1") => `(tactic| first | (with_reducible refine RatG.mk ?_ ?_ ?_) | fail)
local macro_rules | `(tactic| walk_at "sX_1") => `(tactic| first
  | (with_reducible refine ⟨_, rfl, ?_⟩)
  | (with_reducible refine fld_top (by assumption) ?_) | (with_reducible refine fld_bottom (by assumption) ?_)
  | (with_reducible refine ⟨_, .bl, ?_⟩)
  | ((with_reducible refine ⟨?h, ?_⟩); case h => rfl)
  | (with_reducible refine ⟨_, _, rfl, ?_⟩)
  | (with_reducible refine ⟨_, _, _, rfl, ?_⟩)
  | walk_at "use_1"
  | (with_reducible refine setN_top (by assumption) ?_) | (with_reducible refine setN_bottom (by assumption) ?_)
  | ((with_reducible refine ⟨_, _, _, ?j, _, rfl, rfl, .head, ?h, .head, ?_⟩); case h => rfl)
  | fail)
local macro_rules | `(tactic| walk_at "st_1") => `(tactic| first
  | ((with_reducible show We _ _ _ _ _ _); walk_at "sWe_1")
  | ((with_reducible show W2 _ _ _ _ _ _ _ _); walk_at "sW2_1")
  | ((with_reducible show Wa _ _ _ _ _ _); walk_at "sWa_1")
  | ((with_reducible show Ws _ _ _ _ _ _); walk_at "sWs_1")
  | ((with_reducible show Wt _ _ _ _ _ _); walk_at "sWt_1")
  | ((with_reducible show Wc _ _ _ _ _ _ _); walk_at "sWc_1")
  | ((with_reducible show Wg _ _ _ _ _ _ _); walk_at "sWg_1")
  | ((with_reducible show W1 _ _ _ _ _ _ _); walk_at "sW1_1")
  | ((with_reducible show Wgs _ _ _ _ _ _ _); walk_at "sWgs_1")
  | walk_at "sX_1" | fail)
local macro_rules | `(tactic| walk_at "wif_1") => `(tactic| (with_reducible refine ws_if ?_))
local macro_rules | `(tactic| walk_at "br_1") => `(tactic| ((with_reducible refine ⟨fun hb => ?_, fun hb => ?_⟩) <;> (try simp only [decide_eq_true_eq, decide_eq_false_iff_not, Bool.not_eq_true', Bool.not_eq_false', Bool.and_eq_true, Bool.or_eq_true, reduceCtorEq, List.length_map, Bool.not_true, Bool.not_false, DL.isNon, not_true_eq_false, not_false_eq_true, Classical.not_not, List.all_cons, List.all_nil, id_eq, Bool.and_self, Bool.true_and, decide_true, decide_false] at hb)))
local macro_rules | `(tactic| walk_at "go_1") => `(tactic| repeat' (first | walk_at "st_1" | walk_at "wif_1" | walk_at "br_1" | fail))
local macro_rules | `(tactic| walk_at "dl_1") => `(tactic| repeat (first | walk_at "st_1" | walk_at "wif_1" | fail))
theorem drop_q {P : List Int} {k : Nat} {q : Int} (h : P[k]? = some q) : P.drop k = q :: P.drop (k + 1) := by
  obtain ⟨hlt, rfl⟩ := List.getElem?_eq_some_iff.mp h
  exact List.drop_eq_getElem_cons hlt
theorem rev_q {P : List Int} {k : Nat} {x : D} (h : (P.map D.int).reverse[k]? = some x) : ∃ q, x = .int q ∧ P.reverse[k]? = some q := by
  rw [← List.map_reverse, List.getElem?_map] at h
  cases e : P.reverse[k]? with
  | none =>
    rw [e] at h
    cases h
  | some q =>
    rw [e] at h
    exact ⟨q, (Option.some.inj h).symm, rfl⟩
theorem ok_above (T : Txt G C_Ratio C_ZeroBottom C_OutOfBounds C_CarryError) (k_Ratio : Mak G 1 "Ratio" C_Ratio 3 (S_ginit C_Ratio C_ZeroBottom) []) {f : Addr} {fd : FuncData} (F : L2.Fun G.K "_simplest_above_zero" "_simplest_above_zero" s__simplest_above_zero f fd) (b : L2.Binds G.K fd ["low", "high"] []) : Fnx G 3 f 2 (S_above C_Ratio) [] := by
  refine fnx_of F sc__simplest_above_zero rfl b .nil rfl (fun cdv A outer s H FF hr tk => ⟨_, (pss_cons (ps_par (i := 2) (j := 3) rfl sc__simplest_above_zero.nd rfl rfl (by decide) rfl rfl (pa_cons (pe_fld (pe_var (i := 0) rfl (Or.inl rfl) nd_low.1 nd_low.2) rfl) (pa_cons (pe_fld (pe_var (i := 0) rfl (Or.inl rfl) nd_low.1 nd_low.2) rfl) pa_nil)) (by rfl)) (pss_cons (ps_par (i := 4) (j := 5) rfl sc__simplest_above_zero.nd rfl rfl (by decide) rfl rfl (pa_cons (pe_fld (pe_var (i := 1) rfl (Or.inl rfl) nd_high.1 nd_high.2) rfl) (pa_cons (pe_fld (pe_var (i := 1) rfl (Or.inl rfl) nd_high.1 nd_high.2) rfl) pa_nil)) (by rfl)) (pss_cons (ps_set (i := 6) sc__simplest_above_zero.nd rfl (Or.inl rfl) (pe_lst pa_nil)) (pss_cons (ps_while (passes_of rfl) (pt_cm os_gt (pe_una (us_neg hr tk) (pe_bin os_fdiv (pe_una (us_neg hr tk) (pe_var (i := 2) rfl (Or.inl rfl) nd_low_top.1 nd_low_top.2)) (pe_var (i := 3) rfl (Or.inl rfl) nd_low_bottom.1 nd_low_bottom.2))) (pe_bin os_fdiv (pe_var (i := 4) rfl (Or.inl rfl) nd_high_top.1 nd_high_top.2) (pe_var (i := 5) rfl (Or.inl rfl) nd_high_bottom.1 nd_high_bottom.2)) (nomark _)) (pss_cons (ps_set (i := 7) sc__simplest_above_zero.nd rfl (Or.inl rfl) (pe_bin os_fdiv (pe_var (i := 2) rfl (Or.inl rfl) nd_low_top.1 nd_low_top.2) (pe_var (i := 3) rfl (Or.inl rfl) nd_low_bottom.1 nd_low_bottom.2))) (pss_cons (ps_expr (pe_bm PySem.F.plainAttrs_list PySem.F.slot_list_append PySem.F.type_list_append mt_append (pe_var (i := 6) rfl (Or.inl rfl) nd_parts.1 nd_parts.2) (pa_cons (pe_var (i := 7) rfl (Or.inl rfl) nd_part.1 nd_part.2) pa_nil))) (pss_cons (ps_set (i := 8) sc__simplest_above_zero.nd rfl (Or.inl rfl) (pe_bin (os_sub hr tk) (pe_var (i := 2) rfl (Or.inl rfl) nd_low_top.1 nd_low_top.2) (pe_bin (os_mul hr tk) (pe_var (i := 7) rfl (Or.inl rfl) nd_part.1 nd_part.2) (pe_var (i := 3) rfl (Or.inl rfl) nd_low_bottom.1 nd_low_bottom.2)))) (pss_cons (ps_set (i := 9) sc__simplest_above_zero.nd rfl (Or.inl rfl) (pe_bin (os_sub hr tk) (pe_var (i := 4) rfl (Or.inl rfl) nd_high_top.1 nd_high_top.2) (pe_bin (os_mul hr tk) (pe_var (i := 7) rfl (Or.inl rfl) nd_part.1 nd_part.2) (pe_var (i := 5) rfl (Or.inl rfl) nd_high_bottom.1 nd_high_bottom.2)))) (pss_one (ps_asg (pe_tup (pa_cons (pe_var (i := 5) rfl (Or.inl rfl) nd_high_bottom.1 nd_high_bottom.2) (pa_cons (pe_var (i := 9) rfl (Or.inl rfl) nd_high_rest.1 nd_high_rest.2) (pa_cons (pe_var (i := 3) rfl (Or.inl rfl) nd_low_bottom.1 nd_low_bottom.2) (pa_cons (pe_var (i := 8) rfl (Or.inl rfl) nd_low_rest.1 nd_low_rest.2) pa_nil))))) (pg_tup rfl (pgs_cons (pg_name (i := 2) sc__simplest_above_zero.nd rfl (Or.inl rfl)) (pgs_cons (pg_name (i := 3) sc__simplest_above_zero.nd rfl (Or.inl rfl)) (pgs_cons (pg_name (i := 4) sc__simplest_above_zero.nd rfl (Or.inl rfl)) (pgs_cons (pg_name (i := 5) sc__simplest_above_zero.nd rfl (Or.inl rfl)) pgs_nil)))))))))))) (pss_cons (ps_par (i := 10) (j := 11) rfl sc__simplest_above_zero.nd rfl rfl (by decide) rfl rfl (pa_cons (pe_una (us_neg hr tk) (pe_bin os_fdiv (pe_una (us_neg hr tk) (pe_var (i := 2) rfl (Or.inl rfl) nd_low_top.1 nd_low_top.2)) (pe_var (i := 3) rfl (Or.inl rfl) nd_low_bottom.1 nd_low_bottom.2))) (pa_cons pe_int pa_nil)) (by rfl)) (pss_cons (ps_for (passes_of rfl) rfl (pi_seq (pe_revL (pe_var (i := 6) rfl (Or.inl rfl) nd_parts.1 nd_parts.2))) (pg_name (i := 7) sc__simplest_above_zero.nd rfl (Or.inl rfl)) (pss_one (ps_par (i := 10) (j := 11) rfl sc__simplest_above_zero.nd rfl rfl (by decide) rfl rfl (pa_cons (pe_bin (os_add hr tk) (pe_bin (os_mul hr tk) (pe_var (i := 7) rfl (Or.inl rfl) nd_part.1 nd_part.2) (pe_var (i := 10) rfl (Or.inl rfl) nd_top.1 nd_top.2)) (pe_var (i := 11) rfl (Or.inl rfl) nd_bottom.1 nd_bottom.2)) (pa_cons (pe_var (i := 10) rfl (Or.inl rfl) nd_top.1 nd_top.2) pa_nil)) (by rfl)))) (pss_one (ps_ret (pe_mak k_Ratio hr (by decide) tk rfl (pa_cons (pe_var (i := 10) rfl (Or.inl rfl) nd_top.1 nd_top.2) (pa_cons (pe_var (i := 11) rfl (Or.inl rfl) nd_bottom.1 nd_bottom.2) pa_nil))))))))))), ?_⟩)
  rintro ds m K E - ⟨N, w, x, y, z, rfl, hN, r0, k⟩
  show Ws _ _ _ [some (rat C_Ratio w x), some (rat C_Ratio y z), none, none, none, none, none, none, none, none, none, none] _ _
  dsimp only [cx_G, cx_K]
  have R := T.R_Ratio
  refine Ws.shed ?_
  walk_at "go_1"
  refine we_lstM ?_
  walk_at "go_1"
  intro p hp
  walk_at "go_1"
  refine ws_while (fun r' m' => ∃ P lT lB hT hB o1 o2 o3, Ch N w x y z P lT lB hT hB ∧ m' = (p, .lst (P.map D.int)) :: m ∧ r' = [some (rat C_Ratio w x), some (rat C_Ratio y z), some (.int lT), some (.int lB), some (.int hT), some (.int hB), some (.ref p), o1, o2, o3, none, none]) fAbove ?_ ?_
  · exact ⟨[], w, x, y, z, _, _, _, .nil r0, rfl, rfl⟩
  · rintro r' m' ⟨P, lT, lB, hT, hB, o1, o2, o3, ch, rfl, rfl⟩
    have rn := ch.run
    have nB : lB ≠ 0 := by have := rn.b0; omega
    have nC : hB ≠ 0 := by have := rn.c0; omega
    have D1 : ∀ z, CDivX z lB := fun z => rn.w2.divX nB (by omega)
    have D2 : ∀ z, CDivX z hB := fun z => rn.w4.divX nC (by omega)
    walk_at "go_1"
    all_goals try first | exact nB | exact nC | exact D1 _ | exact D2 _
    · have lt := ‹hT.fdiv hB < -(-lT).fdiv lB›
      obtain ⟨hq, bq, rn', l1, l2⟩ := run_step rn lt
      refine we_app ?_
      walk_at "dl_1"
      refine ⟨_, _, rfl, .head, ?_⟩
      walk_at "go_1"
      refine ⟨_, _, _, rfl, .head, by rw [List.length_map]; have := rn.len; omega, .head, ?_⟩
      walk_at "go_1"
      · exact bq.mulX rn.w2 (by omega)
      · exact bq.mulX rn.w4 (by omega)
      · refine ⟨⟨P ++ [lT.fdiv lB], _, _, _, _, _, _, _, .snoc ch hq bq rn', by rw [List.map_append]; rfl, rfl⟩, ?_⟩
        show (hT - lT.fdiv lB * hB).toNat + (lT - lT.fdiv lB * lB).toNat < lB.toNat + hB.toNat
        have := rn'.b0
        have := rn'.c0
        omega
    · have s0 := run_base rn ‹_›
      refine ws_seqI (we_revM ?_)
      walk_at "dl_1"
      refine ⟨p, _, rfl, .head, ?_⟩
      refine ⟨_, fun k r' m' => m' = (p, .lst (P.map D.int)) :: m ∧ ∃ P1 l1 l2 h1 h2 t n o1 o2 o3, Ch N w x y z P1 l1 l2 h1 h2 ∧ P.reverse.drop k = P1.reverse ∧ Sim l1 l2 h1 h2 t n ∧ r' = [some (rat C_Ratio w x), some (rat C_Ratio y z), some (.int lT), some (.int lB), some (.int hT), some (.int hB), some (.ref p), o1, o2, o3, some (.int t), some (.int n)], .lst, ?_, ?_, ?_⟩
      · exact ⟨rfl, P, lT, lB, hT, hB, _, _, _, _, _, ch, by rw [List.drop_zero], s0, rfl⟩
      · rintro j d r' m' hj ⟨rfl, P1, l1, l2, h1, h2, t, n, q1, q2, q3, ch1, e1, s1, rfl⟩
        obtain ⟨q, rfl, hq⟩ := rev_q hj
        rw [drop_q hq] at e1
        obtain ⟨hq0, bq, P2, g1, g2, g3, g4, ch2, e2, s2⟩ := ch1.back e1 s1
        obtain ⟨bn, bt⟩ := s1.bd ch1.run
        walk_at "go_1"
        · exact bq.mulX bt (by omega)
        · exact ⟨P2, g1, g2, g3, g4, _, _, _, _, _, ch2, e2, s2, rfl⟩
      · rintro r' m' ⟨rfl, P1, l1, l2, h1, h2, t, n, q1, q2, q3, ch1, e1, s1, rfl⟩
        have e1' : [] = P1.reverse := by
          rw [← e1]
          simp
        have sf := ch1.fin e1' s1
        walk_at "go_1"
        · have := sf.n0; omega
        · exact dok_one sf.gcd
        · exact ⟨1, k t n sf⟩
theorem run_same {N : Nat} {x : Rat} (h : 0 < x.num) (q : Qb N x) : Run N 0 x.num (x.den : Int) x.num (x.den : Int) :=
  ⟨h, den_pos x, den_pos x, Int.le_refl _, q.t, q.b, q.t, q.b, .inl rfl⟩
theorem sim_same {x : Rat} {t n : Int} (s : Sim x.num (x.den : Int) x.num (x.den : Int) t n) : dv t n = x := by
  have e : t * (x.den : Int) = x.num * n := by
    have := s.lo
    have := s.hi
    omega
  have h := (dv_eq (a := t) (b := n) (c := x.num) (d := (x.den : Int)) (by have := s.n0; omega) (den_ne x)).mpr e
  rw [h, dv_self]
def S_simp (C : Addr) : SpecD := fun ds m K _ => ∃ x, ds = [rq C x, rq C x] ∧ 0 < x.num ∧ Qb 4000 x ∧ K (rq C x) m
theorem use_simp {C : Addr} {x : Rat} {m : Mu} {K : KT} {E : Ex → Mu → Prop} (h : 0 < x.num) (q : Qb 4000 x) (k : K (rq C x) m) : S_simp C [rq C x, rq C x] m K E := ⟨x, rfl, h, q, k⟩
theorem use_above {C : Addr} {x : Rat} {m : Mu} {K : KT} {E : Ex → Mu → Prop} (h : 0 < x.num) (q : Qb 4000 x) (k : K (rq C x) m) : S_above C [rq C x, rq C x] m K E := ⟨4000, _, _, _, _, rfl, Nat.le_refl _, run_same h q, fun t n s => by rw [sim_same s]; exact k⟩
local macro_rules | `(tactic| walk_at "fld_2") => `(tactic| (with_reducible refine we_fldF ?_))
local macro_rules | `(tactic| walk_at "useWe_2") => `(tactic| first | (with_reducible refine we_mt ?_) | (with_reducible refine we_ratG1 ?_) | fail)
local macro_rules | `(tactic| walk_at "sWe_2") => `(tactic| first
  | ((with_reducible refine we_var (d := ?d) ?hv ?hk); case hv => rfl)
  | (with_reducible first
    | refine we_cint ?_ | refine we_2 ?_ | refine we_cl0 ?_ | refine we_tup ?_ | refine we_1 ?_ | refine we_c2 ?_ | refine we_cbl ?_ | refine we_cnon ?_ | refine we_cty ?_ | refine we_cref ?_
    | refine we_op ?_ | refine we_andV ?_ | refine we_orV ?_ | refine we_notV ?_ | refine we_3 ?_ | refine we_ifx ?_ | refine we_cstr ?_ | refine we_clH ?_)
  | walk_at "fld_2"
  | walk_at "useWe_2")
local macro_rules | `(tactic| walk_at "useW2_2") => `(tactic| first | (with_reducible refine w1_negO (by assumption) (by decide) .fixed ?_) | fail)
local macro_rules | `(tactic| walk_at "sW2_2") => `(tactic| first
  | (with_reducible first
    | refine w2_add ?_ | refine w2_sub ?_ | refine w2_mul ⟨?_, ?_⟩ | refine w2_fdiv ⟨?_, ?_⟩ | refine w2_mod ⟨?_, ?_⟩ | refine w2_pow ⟨?_, ?_⟩ | refine w2_eqI ?_ | refine w2_neI ?_ | refine w2_lt ?_ | refine w2_le ?_ | refine w2_gt ?_ | refine w2_ge ?_ | refine w2_eqFI ?_ | refine w2_neFI ?_)
  | ((with_reducible refine w2_ixT (d := ?d) ⟨?hv, ?hk⟩); case hv => rfl)
  | ((with_reducible refine w2_ixL (d := ?d) ⟨?hv, ?hk⟩); case hv => rfl)
  | ((with_reducible refine w2_ixM (d := ?d) .head ⟨?hv, ?hk⟩); case hv => rfl)
  | (with_reducible first
    | refine w2_eqIH ?_ | refine w2_neIH ?_ | refine w2_mulH ⟨?_, ?_⟩ | refine w2_addH ?_ | refine w2_subH ?_ | refine w2_isN ?_ | refine w2_notN ?_ | refine w2_isB ?_ | refine w2_notB ?_)
  | walk_at "useW2_2")
local macro_rules | `(tactic| walk_at "sWa_2") => `(tactic| with_reducible first | refine wa_nil ?_ | refine wa_cons ?_)
local macro_rules | `(tactic| walk_at "useWs_2") => `(tactic| first | (with_reducible refine ws_rs0 ?_) | (with_reducible refine ws_rs ?_) | fail)
local macro_rules | `(tactic| walk_at "sWs_2") => `(tactic| first
  | (with_reducible first | refine ws_seq ?_ | refine ws_ret ?_ | refine ws_asg ?_ | refine ws_next ?_ | refine ws_drop ?_ | refine ws_par ?_ | refine ws_par3 ?_ | refine ws_fldN ?_ | refine ws_brk ?_ | refine ws_cont ?_)
  | walk_at "useWs_2")
local macro_rules | `(tactic| walk_at "sWt_2") => `(tactic| with_reducible first | refine wt_test ?_ | refine wt_tr ?_ | refine wt_and ?_ | refine wt_or ?_ | refine wt_not ?_)
local macro_rules | `(tactic| walk_at "useWc_2") => `(tactic| fail)
local macro_rules | `(tactic| walk_at "sWc_2") => `(tactic| first
  | (with_reducible first | refine wc_int ?_ | refine wc_abs ?_ | refine wc_min ?_ | refine wc_gcd ?_ | refine wc_isiT .int kit_ii ?_ | refine wc_isiT .int kit_ib ?_ | refine wc_len .lst ?_ | refine wc_len .tup ?_ | refine wc_strI ?_ ?_)
  | walk_at "useWc_2")
local macro_rules | `(tactic| walk_at "sWg_2") => `(tactic| with_reducible first | refine wg_name ?_ | refine wg_subM ?_ | refine wg_tup rfl ?_)
local macro_rules | `(tactic| walk_at "sW1_2") => `(tactic| first | (with_reducible refine w1_neg ?_) | walk_at "useW2_2")
local macro_rules | `(tactic| walk_at "sWgs_2") => `(tactic| with_reducible first | refine wgs_cons ?_ | refine wgs_nil ?_)
local macro_rules | `(tactic| walk_at "use_2") => `(tactic| first | (with_reducible refine mt_of0 (by assumption) (by decide) ?_) | (with_reducible refine use_gcmp (by assumption) (by assumption) ?_) | (with_reducible refine use_gsign ?_) | (with_reducible refine use_above (by assumption) (by assumption) ?_) | fail)
local macro_rules | `(tactic| walk_at "sX_2") => `(tactic| first
  | (with_reducible refine ⟨_, rfl, ?_⟩)
  | (with_reducible refine fld_top (by assumption) ?_) | (with_reducible refine fld_bottom (by assumption) ?_)
  | (with_reducible refine ⟨_, .bl, ?_⟩)
  | ((with_reducible refine ⟨?h, ?_⟩); case h => rfl)
  | (with_reducible refine ⟨_, _, rfl, ?_⟩)
  | (with_reducible refine ⟨_, _, _, rfl, ?_⟩)
  | walk_at "use_2"
  | (with_reducible refine setN_top (by assumption) ?_) | (with_reducible refine setN_bottom (by assumption) ?_)
  | ((with_reducible refine ⟨_, _, _, ?j, _, rfl, rfl, .head, ?h, .head, ?_⟩); case h => rfl)
  | fail)
local macro_rules | `(tactic| walk_at "st_2") => `(tactic| first
  | ((with_reducible show We _ _ _ _ _ _); walk_at "sWe_2")
  | ((with_reducible show W2 _ _ _ _ _ _ _ _); walk_at "sW2_2")
  | ((with_reducible show Wa _ _ _ _ _ _); walk_at "sWa_2")
  | ((with_reducible show Ws _ _ _ _ _ _); walk_at "sWs_2")
  | ((with_reducible show Wt _ _ _ _ _ _); walk_at "sWt_2")
  | ((with_reducible show Wc _ _ _ _ _ _ _); walk_at "sWc_2")
  | ((with_reducible show Wg _ _ _ _ _ _ _); walk_at "sWg_2")
  | ((with_reducible show W1 _ _ _ _ _ _ _); walk_at "sW1_2")
  | ((with_reducible show Wgs _ _ _ _ _ _ _); walk_at "sWgs_2")
  | walk_at "sX_2" | fail)
local macro_rules | `(tactic| walk_at "wif_2") => `(tactic| (with_reducible refine ws_if ?_))
local macro_rules | `(tactic| walk_at "br_2") => `(tactic| ((with_reducible refine ⟨fun hb => ?_, fun hb => ?_⟩) <;> (try simp only [decide_eq_true_eq, decide_eq_false_iff_not, Bool.not_eq_true', Bool.not_eq_false', Bool.and_eq_true, Bool.or_eq_true, reduceCtorEq, List.length_map, Bool.not_true, Bool.not_false, DL.isNon, not_true_eq_false, not_false_eq_true, Classical.not_not, List.all_cons, List.all_nil, id_eq, Bool.and_self, Bool.true_and, decide_true, decide_false] at hb)))
local macro_rules | `(tactic| walk_at "go_2") => `(tactic| repeat' (first | walk_at "st_2" | walk_at "wif_2" | walk_at "br_2" | fail))
theorem ok_simplest (T : Txt G C_Ratio C_ZeroBottom C_OutOfBounds C_CarryError) (k1_Ratio : Mak G 1 "Ratio" C_Ratio 3 (S_ginit C_Ratio C_ZeroBottom) [.int 1]) (m_Ratio_compare : Met G 1 C_Ratio ["top", "bottom"] "compare" 2 (S_gcmp C_Ratio) []) (m_Ratio_sign : Met G 1 C_Ratio ["top", "bottom"] "sign" 1 (S_gsign C_Ratio) []) (o_Ratio___neg__ : Opr G 3 C_Ratio "__neg__" 1 (S_gneg C_Ratio)) (c__simplest_above_zero : Cal G 3 "_simplest_above_zero" 2 (S_above C_Ratio) []) {f : Addr} {fd : FuncData} (F : L2.Fun G.K "simplest" "simplest" s_simplest f fd) (b : L2.Binds G.K fd ["low", "high"] []) : Fnx G 4 f 2 (S_simp C_Ratio) [] := by
  have k_Ratio := k1_Ratio
  refine fnx_of F sc_simplest rfl b .nil rfl (fun cdv A outer s H FF hr tk => ⟨_, (pss_cons (ps_if (pt_cm os_gt (pe_mth hr tk (pe_var (i := 0) rfl (Or.inl rfl) nd_low.1 nd_low.2) (pa_cons (pe_var (i := 1) rfl (Or.inl rfl) nd_high.1 nd_high.2) pa_nil)) pe_int (nomark _)) (pss_one ps_never) pss_nil) (pss_cons (ps_if (pt_cm os_gt (pe_mth0 hr tk (pe_var (i := 0) rfl (Or.inl rfl) nd_low.1 nd_low.2)) pe_int (nomark _)) (pss_one (ps_ret (pe_cl c__simplest_above_zero hr (by decide) tk rfl (pa_cons (pe_var (i := 0) rfl (Or.inl rfl) nd_low.1 nd_low.2) (pa_cons (pe_var (i := 1) rfl (Or.inl rfl) nd_high.1 nd_high.2) pa_nil))))) pss_nil) (pss_cons (ps_if (pt_cm os_lt (pe_mth0 hr tk (pe_var (i := 1) rfl (Or.inl rfl) nd_high.1 nd_high.2)) pe_int (nomark _)) (pss_one (ps_ret (pe_una (us_neg hr tk) (pe_cl c__simplest_above_zero hr (by decide) tk rfl (pa_cons (pe_una (us_neg hr tk) (pe_var (i := 1) rfl (Or.inl rfl) nd_high.1 nd_high.2)) (pa_cons (pe_una (us_neg hr tk) (pe_var (i := 0) rfl (Or.inl rfl) nd_low.1 nd_low.2)) pa_nil)))))) pss_nil) (pss_one (ps_ret (pe_mak k_Ratio hr (by decide) tk rfl (pa_cons pe_int pa_nil))))))), ?_⟩)
  rintro ds m K E - ⟨x, rfl, hp, qx, k⟩
  show Ws _ _ _ [some (rq C_Ratio x), some (rq C_Ratio x)] _ _
  dsimp only [cx_G, cx_K]
  have R := T.R_Ratio
  have sx : Sz x := qx.mono (by decide)
  have c0 : ¬ 0 < cq x x := by rw [cq_self]; decide
  have c1 : 0 < cq x 0 := cq_pos.mpr (num_pos_iff.mp hp)
  walk_at "go_2"
  all_goals first
    | exact absurd ‹_› c0
    | exact k
    | exact absurd c1 ‹_›
    | skip
end
end K01
set_option Elab.async false
set_option linter.all false
set_option maxRecDepth 100000
/-! M01: plain facts of the fractions of many digits of k01. -/
namespace DL
open PySem PySem.Spec L2
theorem low_of {a b : Int} (hb : 0 < b) (h : Nat.gcd a.natAbs b.natAbs = 1) : (dv a b).num = a ∧ ((dv a b).den : Int) = b := by
  have r := rT_dv (t := a) (b := b) (by omega)
  have l := rat_low hb h
  exact ⟨r.1.symm.trans l.1, r.2.symm.trans l.2⟩
theorem cop_of {a v w z : Int} (h : Nat.gcd w.natAbs v.natAbs = 1) (e : a = w + z * v) : Nat.gcd a.natAbs v.natAbs = 1 := by
  have d1 : ((Nat.gcd a.natAbs v.natAbs : Nat) : Int) ∣ a := Int.ofNat_dvd_left.mpr (Nat.gcd_dvd_left _ _)
  have d2 : ((Nat.gcd a.natAbs v.natAbs : Nat) : Int) ∣ v := Int.ofNat_dvd_left.mpr (Nat.gcd_dvd_right _ _)
  have d3 : ((Nat.gcd a.natAbs v.natAbs : Nat) : Int) ∣ w := by
    have : w = a - z * v := by omega
    rw [this]
    exact Int.dvd_sub d1 (Int.dvd_mul_of_dvd_right d2)
  have n3 := Int.ofNat_dvd_left.mp d3
  have n2 := Int.ofNat_dvd_left.mp d2
  have : Nat.gcd a.natAbs v.natAbs ∣ Nat.gcd w.natAbs v.natAbs := Nat.dvd_gcd n3 n2
  rw [h] at this
  exact Nat.dvd_one.mp this
theorem cop_sq {u v : Int} (h : Nat.gcd u.natAbs v.natAbs = 1) : Nat.gcd (u * u).natAbs v.natAbs = 1 := by
  rw [Int.natAbs_mul]
  exact Nat.Coprime.mul_left h h
theorem cop_mulR {a u v : Int} (h : Nat.gcd a.natAbs u.natAbs = 1) (k : Nat.gcd a.natAbs v.natAbs = 1) : Nat.gcd a.natAbs (u * v).natAbs = 1 := by
  rw [Int.natAbs_mul]
  exact Nat.Coprime.mul_right h k
/-- u and v of many digits, without a common divisor -/
structure Big (u v : Int) : Prop where
  u0 : 0 < u
  uv : u < v
  v2 : v ≤ 2 * u
  cop : Nat.gcd u.natAbs v.natAbs = 1
  bu : Bd 10000 u
  bv : Bd 10000 v
def Sg (s : Int) : Prop := s = 1 ∨ s = -1
theorem Sg.sq {s : Int} (h : Sg s) : s * s = 1 := by rcases h with rfl | rfl <;> rfl
theorem Sg.abs {s : Int} (h : Sg s) (a : Int) : (s * a).natAbs = a.natAbs := by
  rcases h with rfl | rfl
  · rw [Int.one_mul]
  · rw [Int.neg_mul, Int.one_mul, Int.natAbs_neg]
theorem Big.cop' {u v : Int} (b : Big u v) : Nat.gcd v.natAbs u.natAbs = 1 := by rw [Nat.gcd_comm]; exact b.cop
/-- u u + s v v has no divisor in common with u v -/
theorem Big.plus {u v s : Int} (b : Big u v) (h : Sg s) : Nat.gcd (u * u + s * v * v).natAbs (u * v).natAbs = 1 := by
  refine cop_mulR ?_ ?_
  · refine cop_of (w := s * v * v) (z := u) ?_ (by rw [Int.add_comm])
    rw [Int.mul_assoc, h.abs]
    exact cop_sq b.cop'
  · exact cop_of (w := u * u) (z := s * v) (cop_sq b.cop) rfl
theorem Sg.neg {s : Int} (h : Sg s) : Sg (-s) := by
  rcases h with rfl | rfl
  · exact .inr rfl
  · exact .inl rfl
theorem Big.minus {u v s : Int} (b : Big u v) (h : Sg s) : Nat.gcd (u * u - s * v * v).natAbs (u * v).natAbs = 1 := by
  have := b.plus h.neg
  rwa [Int.neg_mul, Int.neg_mul, ← Int.sub_eq_add_neg] at this
theorem Big.minus' {u v s : Int} (b : Big u v) (h : Sg s) : Nat.gcd (s * v * v - u * u).natAbs (u * v).natAbs = 1 := by
  have := b.minus h
  rwa [show u * u - s * v * v = -(s * v * v - u * u) by omega, Int.natAbs_neg] at this
theorem Big.sq {u v : Int} (b : Big u v) : Nat.gcd (u * u).natAbs (v * v).natAbs = 1 := cop_mulR (cop_sq b.cop) (cop_sq b.cop)
theorem Big.sum {u v : Int} (b : Big u v) : Nat.gcd v.natAbs (u + v).natAbs = 1 := by
  rw [Nat.gcd_comm]
  exact cop_of (w := u) (z := 1) b.cop (by omega)
theorem dok_abs {t b : Int} (n : b ≠ 0) (e : t.natAbs = b.natAbs) : Dok t b := by
  have g : gc t b = (b.natAbs : Int) := by
    unfold gc
    rw [e, Nat.gcd_self]
  have g' : gc t b ≠ 0 := by omega
  refine ⟨⟨g', .inr ?_⟩, ⟨g', .inr ?_⟩⟩
  · rw [g, e, Int.natAbs_natCast]
    exact Nat.le_add_right _ _
  · rw [g, Int.natAbs_natCast]
    exact Nat.le_add_right _ _
theorem log_le {a b : Int} (h : a.natAbs ≤ 2 * b.natAbs) (n : b ≠ 0) : a.natAbs.log2 ≤ b.natAbs.log2 + 4000 := by
  have h1 : a.natAbs < 2 ^ (b.natAbs.log2 + 2) := by
    have := Nat.lt_log2_self (n := b.natAbs)
    have e : 2 ^ (b.natAbs.log2 + 2) = 2 * 2 ^ (b.natAbs.log2 + 1) := by rw [Nat.pow_succ, Nat.mul_comm]
    omega
  have := (show Bd (b.natAbs.log2 + 2) a from h1).ok
  omega
/-- the turns: u, v -> v, u + v -/
structure Fb (k : Nat) (u v : Int) : Prop where
  u0 : 0 ≤ u
  v0 : 0 < v
  cop : Nat.gcd u.natAbs v.natAbs = 1
  bu : Bd (k + 2) u
  bv : Bd (k + 2) v
  one : 1 ≤ k → 0 < u ∧ u ≤ v
  two : 2 ≤ k → u < v ∧ v ≤ 2 * u
theorem Fb.step {k : Nat} {u v : Int} (f : Fb k u v) : Fb (k + 1) v (u + v) := by
  obtain ⟨u0, v0, cop, bu, bv, one, two⟩ := f
  refine ⟨Int.le_of_lt v0, by omega, ?_, bv.mono (by omega), (bu.add bv).mono (by omega), fun _ => ⟨v0, by omega⟩, fun h => ?_⟩
  · rw [Nat.gcd_comm]
    exact cop_of (w := u) (z := 1) cop (by omega)
  · have := one (by omega)
    omega
theorem Fb.big {k : Nat} {u v : Int} (f : Fb k u v) (h : 2 ≤ k) (l : k ≤ 9998) : Big u v :=
  ⟨(f.one (by omega)).1, (f.two h).1, (f.two h).2, f.cop, f.bu.mono (by omega), f.bv.mono (by omega)⟩
end DL
set_option Elab.async false
set_option linter.all false
set_option maxRecDepth 100000
set_option maxHeartbeats 4000000
namespace K01
open PySem PySem.Spec L2 DL
open PyProof.Rows hiding St
/-! one step, by the goal's head -/

/-! Ratio and Span by numbers: their promises used -/

/-- x = u / v, y = s v / u -/
structure LX (u v s : Int) (x y : Rat) : Prop where
  big : Big u v
  sg : Sg s
  xe : x = dv u v
  ye : y = dv (s * v) u
section
variable {u v s : Int} {x y : Rat}
theorem LX.px (l : LX u v s x y) : x.num = u ∧ (x.den : Int) = v := by
  rw [l.xe]
  exact low_of (by have := l.big.u0; have := l.big.uv; omega) l.big.cop
theorem LX.py (l : LX u v s x y) : y.num = s * v ∧ (y.den : Int) = u := by
  rw [l.ye]
  exact low_of l.big.u0 (by rw [l.sg.abs]; exact l.big.cop')
theorem Sg.bd (h : Sg s) : Bd 2 s := by rcases h with rfl | rfl <;> exact bd_lit (by decide)
theorem LX.sx (l : LX u v s x y) : Sz x := ⟨by rw [l.px.1]; exact l.big.bu.mono (by decide), by rw [l.px.2]; exact l.big.bv.mono (by decide)⟩
theorem LX.sy (l : LX u v s x y) : Sz y := ⟨by rw [l.py.1]; exact ((Sg.bd l.sg).mul l.big.bv).mono (by decide), by rw [l.py.2]; exact l.big.bu.mono (by decide)⟩
theorem LX.vp (l : LX u v s x y) : 0 < v := by have := l.big.u0; have := l.big.uv; omega
theorem LX.p1 (l : LX u v s x y) : (x + y).num = u * u + s * v * v ∧ ((x + y).den : Int) = u * v := by
  have e : x + y = dv (u * u + s * v * v) (u * v) := by
    rw [l.xe, l.ye, add_dv (by have := l.vp; omega) (by have := l.big.u0; omega), Int.mul_comm v u]
  rw [e]
  exact low_of (Int.mul_pos l.big.u0 l.vp) (l.big.plus l.sg)
theorem LX.p2 (l : LX u v s x y) : (x - y).num = u * u - s * v * v ∧ ((x - y).den : Int) = u * v := by
  have e : x - y = dv (u * u - s * v * v) (u * v) := by
    rw [l.xe, l.ye, sub_dv (by have := l.vp; omega) (by have := l.big.u0; omega), Int.mul_comm v u]
  rw [e]
  exact low_of (Int.mul_pos l.big.u0 l.vp) (l.big.minus l.sg)
theorem LX.p3 (l : LX u v s x y) : (y - x).num = s * v * v - u * u ∧ ((y - x).den : Int) = u * v := by
  have e : y - x = dv (s * v * v - u * u) (u * v) := by
    rw [l.xe, l.ye, sub_dv (by have := l.big.u0; omega) (by have := l.vp; omega)]
  rw [e]
  exact low_of (Int.mul_pos l.big.u0 l.vp) (l.big.minus' l.sg)
theorem LX.p4 (l : LX u v s x y) : (x * y).num = s ∧ ((x * y).den : Int) = 1 := by
  have v0 := l.vp
  have u0 := l.big.u0
  have e : x * y = dv s 1 := by
    rw [l.xe, l.ye, mul_dv, dv_eq (Int.mul_ne_zero (by omega) (by omega)) (by decide)]
    grind
  rw [e]
  exact low_of (by decide) (Nat.gcd_one_right _)
theorem LX.p5 (l : LX u v s x y) : (x * x).num = u * u ∧ ((x * x).den : Int) = v * v := by
  rw [l.xe, mul_dv]
  exact low_of (Int.mul_pos l.vp l.vp) l.big.sq
theorem LX.p6 (l : LX u v s x y) : (x / y).num = s * u * u ∧ ((x / y).den : Int) = v * v := by
  have v0 := l.vp
  have u0 := l.big.u0
  have ss := l.sg.sq
  have e : x / y = dv (s * u * u) (v * v) := by
    have sn : s ≠ 0 := fun z => by rw [z] at ss; omega
    rw [l.xe, l.ye, Rat.div_def, inv_dv, mul_dv, dv_eq (Int.mul_ne_zero (by omega) (Int.mul_ne_zero sn (by omega))) (Int.mul_ne_zero (by omega) (by omega))]
    grind
  rw [e]
  exact low_of (Int.mul_pos l.vp l.vp) (by rw [Int.mul_assoc, l.sg.abs]; exact l.big.sq)
theorem LX.p7 (l : LX u v s x y) : (y / x).num = s * v * v ∧ ((y / x).den : Int) = u * u := by
  rw [l.xe, l.ye, Rat.div_def, inv_dv, mul_dv]
  exact low_of (Int.mul_pos l.big.u0 l.big.u0) (by rw [Int.mul_assoc, l.sg.abs, Nat.gcd_comm]; exact l.big.sq)
theorem LX.yn (l : LX u v s x y) : y ≠ 0 := fun z => by
  have e := l.py.1
  rw [z] at e
  have v0 := l.vp
  have ss := l.sg
  rcases ss with rfl | rfl
  · have : (0 : Int) = 1 * v := e
    omega
  · have : (0 : Int) = -1 * v := e
    omega
theorem LX.xn (l : LX u v s x y) : x ≠ 0 := fun z => by
  have e := l.px.1
  rw [z] at e
  have u0 := l.big.u0
  have : (0 : Int) = u := e
  omega
theorem self_div {y : Rat} (n : y ≠ 0) : y / y = 1 := by
  rw [Rat.div_def, Rat.mul_inv_cancel _ n]
end
section
variable {G : Gx} {C_Ratio C_ZeroBottom C_OutOfBounds C_CarryError : Addr}
local macro_rules | `(tactic| walk_at "fld_1") => `(tactic| (with_reducible refine we_fldF ?_))
local macro_rules | `(tactic| walk_at "useWe_1") => `(tactic| first | (with_reducible refine we_mt ?_) | fail)
local macro_rules | `(tactic| walk_at "sWe_1") => `(tactic| first
  | ((with_reducible refine we_var (d := ?d) ?hv ?hk); case hv => rfl)
  | (with_reducible first
    | refine we_cint ?_ | refine we_2 ?_ | refine we_cl0 ?_ | refine we_tup ?_ | refine we_1 ?_ | refine we_c2 ?_ | refine we_cbl ?_ | refine we_cnon ?_ | refine we_cty ?_ | refine we_cref ?_
    | refine we_op ?_ | refine we_andV ?_ | refine we_orV ?_ | refine we_notV ?_ | refine we_3 ?_ | refine we_ifx ?_ | refine we_cstr ?_ | refine we_clH ?_)
  | walk_at "fld_1"
  | walk_at "useWe_1")
local macro_rules | `(tactic| walk_at "useW2_1") => `(tactic| first
  | (with_reducible refine w2_addO (by assumption) (by decide) .fixed .fixed ?_) | (with_reducible refine w2_subO (by assumption) (by decide) .fixed .fixed ?_) | (with_reducible refine w2_mulO (by assumption) (by decide) .fixed .fixed ?_) | (with_reducible refine w1_negO (by assumption) (by decide) .fixed ?_) | (with_reducible refine w2_inO (by assumption) (by decide) .fixed ?_) | fail)
local macro_rules | `(tactic| walk_at "sW2_1") => `(tactic| first
  | (with_reducible first
    | refine w2_add ?_ | refine w2_sub ?_ | refine w2_mul ⟨?_, ?_⟩ | refine w2_fdiv ⟨?_, ?_⟩ | refine w2_mod ⟨?_, ?_⟩ | refine w2_pow ⟨?_, ?_⟩ | refine w2_eqI ?_ | refine w2_neI ?_ | refine w2_lt ?_ | refine w2_le ?_ | refine w2_gt ?_ | refine w2_ge ?_ | refine w2_eqFI ?_ | refine w2_neFI ?_)
  | ((with_reducible refine w2_ixT (d := ?d) ⟨?hv, ?hk⟩); case hv => rfl)
  | ((with_reducible refine w2_ixL (d := ?d) ⟨?hv, ?hk⟩); case hv => rfl)
  | ((with_reducible refine w2_ixM (d := ?d) .head ⟨?hv, ?hk⟩); case hv => rfl)
  | (with_reducible first
    | refine w2_eqIH ?_ | refine w2_neIH ?_ | refine w2_mulH ⟨?_, ?_⟩ | refine w2_addH ?_ | refine w2_subH ?_ | refine w2_isN ?_ | refine w2_notN ?_ | refine w2_isB ?_ | refine w2_notB ?_)
  | walk_at "useW2_1")
local macro_rules | `(tactic| walk_at "sWa_1") => `(tactic| with_reducible first | refine wa_nil ?_ | refine wa_cons ?_)
local macro_rules | `(tactic| walk_at "useWs_1") => `(tactic| first | (with_reducible refine ws_rs0 ?_) | (with_reducible refine ws_rs ?_) | fail)
local macro_rules | `(tactic| walk_at "sWs_1") => `(tactic| first
  | (with_reducible first | refine ws_seq ?_ | refine ws_ret ?_ | refine ws_asg ?_ | refine ws_next ?_ | refine ws_drop ?_ | refine ws_par ?_ | refine ws_par3 ?_ | refine ws_fldN ?_ | refine ws_brk ?_ | refine ws_cont ?_)
  | walk_at "useWs_1")
local macro_rules | `(tactic| walk_at "sWt_1") => `(tactic| with_reducible first | refine wt_test ?_ | refine wt_tr ?_ | refine wt_and ?_ | refine wt_or ?_ | refine wt_not ?_)
local macro_rules | `(tactic| walk_at "useWc_1") => `(tactic| fail)
local macro_rules | `(tactic| walk_at "sWc_1") => `(tactic| first
  | (with_reducible first | refine wc_int ?_ | refine wc_abs ?_ | refine wc_min ?_ | refine wc_gcd ?_ | refine wc_isiT .int kit_ii ?_ | refine wc_isiT .int kit_ib ?_ | refine wc_len .lst ?_ | refine wc_len .tup ?_ | refine wc_strI ?_ ?_)
  | walk_at "useWc_1")
local macro_rules | `(tactic| walk_at "sWg_1") => `(tactic| with_reducible first | refine wg_name ?_ | refine wg_subM ?_ | refine wg_tup rfl ?_)
local macro_rules | `(tactic| walk_at "sW1_1") => `(tactic| first | (with_reducible refine w1_neg ?_) | walk_at "useW2_1")
local macro_rules | `(tactic| walk_at "sWgs_1") => `(tactic| with_reducible first | refine wgs_cons ?_ | refine wgs_nil ?_)
local macro_rules | `(tactic| walk_at "use_1") => `(tactic| first
  | (with_reducible refine mt_of0 (by assumption) (by decide) ?_) | (with_reducible refine use_is ?_ ?_ ?_) | (with_reducible refine use_gadd (by assumption) (by assumption) ?_ ?_) | (with_reducible refine use_gsub (by assumption) (by assumption) ?_ ?_) | (with_reducible refine use_gmul (by assumption) (by assumption) ?_ ?_) | (with_reducible refine use_gdiv (by assumption) (by assumption) (by assumption) ?_ ?_)
  | fail)
local macro_rules | `(tactic| walk_at "sX_1") => `(tactic| first
  | (with_reducible refine ⟨_, rfl, ?_⟩)
  | (with_reducible refine fld_top (by assumption) ?_) | (with_reducible refine fld_bottom (by assumption) ?_)
  | (with_reducible refine ⟨_, .bl, ?_⟩)
  | ((with_reducible refine ⟨?h, ?_⟩); case h => rfl)
  | (with_reducible refine ⟨_, _, rfl, ?_⟩)
  | (with_reducible refine ⟨_, _, _, rfl, ?_⟩)
  | walk_at "use_1"
  | (with_reducible refine setN_top (by assumption) ?_) | (with_reducible refine setN_bottom (by assumption) ?_)
  | ((with_reducible refine ⟨_, _, _, ?j, _, rfl, rfl, .head, ?h, .head, ?_⟩); case h => rfl)
  | fail)
local macro_rules | `(tactic| walk_at "st_1") => `(tactic| first
  | ((with_reducible show We _ _ _ _ _ _); walk_at "sWe_1")
  | ((with_reducible show W2 _ _ _ _ _ _ _ _); walk_at "sW2_1")
  | ((with_reducible show Wa _ _ _ _ _ _); walk_at "sWa_1")
  | ((with_reducible show Ws _ _ _ _ _ _); walk_at "sWs_1")
  | ((with_reducible show Wt _ _ _ _ _ _); walk_at "sWt_1")
  | ((with_reducible show Wc _ _ _ _ _ _ _); walk_at "sWc_1")
  | ((with_reducible show Wg _ _ _ _ _ _ _); walk_at "sWg_1")
  | ((with_reducible show W1 _ _ _ _ _ _ _); walk_at "sW1_1")
  | ((with_reducible show Wgs _ _ _ _ _ _ _); walk_at "sWgs_1")
  | walk_at "sX_1" | fail)
local macro_rules | `(tactic| walk_at "wif_1") => `(tactic| (with_reducible refine ws_if ?_))
local macro_rules | `(tactic| walk_at "br_1") => `(tactic| ((with_reducible refine ⟨fun hb => ?_, fun hb => ?_⟩) <;> (try simp only [decide_eq_true_eq, decide_eq_false_iff_not, Bool.not_eq_true', Bool.not_eq_false', Bool.and_eq_true, Bool.or_eq_true, reduceCtorEq, List.length_map, Bool.not_true, Bool.not_false, DL.isNon, not_true_eq_false, not_false_eq_true, Classical.not_not, List.all_cons, List.all_nil, id_eq, Bool.and_self, Bool.true_and, decide_true, decide_false] at hb)))
local macro_rules | `(tactic| walk_at "go_1") => `(tactic| repeat' (first | walk_at "st_1" | walk_at "wif_1" | walk_at "br_1" | fail))
def S_lfour (C : Addr) : SpecD := fun ds m K _ => ∃ x y u v s, ds = [rq C x, rq C y, .int u, .int v, .int s] ∧ LX u v s x y ∧ K (.bl true) m
theorem use_lfour {C : Addr} {x y : Rat} {u v s : Int} {m : Mu} {K : KT} {E : Ex → Mu → Prop} (l : LX u v s x y) (k : K (.bl true) m) : S_lfour C [rq C x, rq C y, .int u, .int v, .int s] m K E := ⟨_, _, _, _, _, rfl, l, k⟩
theorem ok_long_four (T : Txt G C_Ratio C_ZeroBottom C_OutOfBounds C_CarryError) (m_Ratio_divided : Met G 3 C_Ratio ["top", "bottom"] "divided" 2 (S_gdiv C_Ratio C_ZeroBottom) []) (o_Ratio___add__ : Opr G 3 C_Ratio "__add__" 2 (S_gadd C_Ratio)) (o_Ratio___sub__ : Opr G 3 C_Ratio "__sub__" 2 (S_gsub C_Ratio)) (o_Ratio___mul__ : Opr G 3 C_Ratio "__mul__" 2 (S_gmul C_Ratio)) (c__law_is : Cal G 1 "_law_is" 2 (S_is C_Ratio) []) {f : Addr} {fd : FuncData} (F : L2.Fun G.K "_law_long_four" "_law_long_four" s__law_long_four f fd) (b : L2.Binds G.K fd ["x", "y", "u", "v", "sign"] []) : Fnx G 4 f 5 (S_lfour C_Ratio) [] := by
  refine fnx_of F sc__law_long_four rfl b .nil rfl (fun cdv A outer s H FF hr tk => ⟨_, (pss_cons (ps_if (pt_not (pt_tr (pe_cl c__law_is hr (by decide) tk rfl (pa_cons (pe_bin (os_add hr tk) (pe_var (i := 0) rfl (Or.inl rfl) nd_x.1 nd_x.2) (pe_var (i := 1) rfl (Or.inl rfl) nd_y.1 nd_y.2)) (pa_cons (pe_tup (pa_cons (pe_bin (os_add hr tk) (pe_bin (os_mul hr tk) (pe_var (i := 2) rfl (Or.inl rfl) nd_u.1 nd_u.2) (pe_var (i := 2) rfl (Or.inl rfl) nd_u.1 nd_u.2)) (pe_bin (os_mul hr tk) (pe_bin (os_mul hr tk) (pe_var (i := 4) rfl (Or.inl rfl) nd_sign.1 nd_sign.2) (pe_var (i := 3) rfl (Or.inl rfl) nd_v.1 nd_v.2)) (pe_var (i := 3) rfl (Or.inl rfl) nd_v.1 nd_v.2))) (pa_cons (pe_bin (os_mul hr tk) (pe_var (i := 2) rfl (Or.inl rfl) nd_u.1 nd_u.2) (pe_var (i := 3) rfl (Or.inl rfl) nd_v.1 nd_v.2)) pa_nil))) pa_nil))))) (pss_one (ps_ret pe_bl)) pss_nil) (pss_cons (ps_if (pt_not (pt_tr (pe_cl c__law_is hr (by decide) tk rfl (pa_cons (pe_bin (os_sub hr tk) (pe_var (i := 0) rfl (Or.inl rfl) nd_x.1 nd_x.2) (pe_var (i := 1) rfl (Or.inl rfl) nd_y.1 nd_y.2)) (pa_cons (pe_tup (pa_cons (pe_bin (os_sub hr tk) (pe_bin (os_mul hr tk) (pe_var (i := 2) rfl (Or.inl rfl) nd_u.1 nd_u.2) (pe_var (i := 2) rfl (Or.inl rfl) nd_u.1 nd_u.2)) (pe_bin (os_mul hr tk) (pe_bin (os_mul hr tk) (pe_var (i := 4) rfl (Or.inl rfl) nd_sign.1 nd_sign.2) (pe_var (i := 3) rfl (Or.inl rfl) nd_v.1 nd_v.2)) (pe_var (i := 3) rfl (Or.inl rfl) nd_v.1 nd_v.2))) (pa_cons (pe_bin (os_mul hr tk) (pe_var (i := 2) rfl (Or.inl rfl) nd_u.1 nd_u.2) (pe_var (i := 3) rfl (Or.inl rfl) nd_v.1 nd_v.2)) pa_nil))) pa_nil))))) (pss_one (ps_ret pe_bl)) pss_nil) (pss_cons (ps_if (pt_not (pt_tr (pe_cl c__law_is hr (by decide) tk rfl (pa_cons (pe_bin (os_sub hr tk) (pe_var (i := 1) rfl (Or.inl rfl) nd_y.1 nd_y.2) (pe_var (i := 0) rfl (Or.inl rfl) nd_x.1 nd_x.2)) (pa_cons (pe_tup (pa_cons (pe_bin (os_sub hr tk) (pe_bin (os_mul hr tk) (pe_bin (os_mul hr tk) (pe_var (i := 4) rfl (Or.inl rfl) nd_sign.1 nd_sign.2) (pe_var (i := 3) rfl (Or.inl rfl) nd_v.1 nd_v.2)) (pe_var (i := 3) rfl (Or.inl rfl) nd_v.1 nd_v.2)) (pe_bin (os_mul hr tk) (pe_var (i := 2) rfl (Or.inl rfl) nd_u.1 nd_u.2) (pe_var (i := 2) rfl (Or.inl rfl) nd_u.1 nd_u.2))) (pa_cons (pe_bin (os_mul hr tk) (pe_var (i := 2) rfl (Or.inl rfl) nd_u.1 nd_u.2) (pe_var (i := 3) rfl (Or.inl rfl) nd_v.1 nd_v.2)) pa_nil))) pa_nil))))) (pss_one (ps_ret pe_bl)) pss_nil) (pss_cons (ps_if (pt_not (pt_tr (pe_cl c__law_is hr (by decide) tk rfl (pa_cons (pe_bin (os_mul hr tk) (pe_var (i := 0) rfl (Or.inl rfl) nd_x.1 nd_x.2) (pe_var (i := 1) rfl (Or.inl rfl) nd_y.1 nd_y.2)) (pa_cons (pe_tup (pa_cons (pe_var (i := 4) rfl (Or.inl rfl) nd_sign.1 nd_sign.2) (pa_cons pe_int pa_nil))) pa_nil))))) (pss_one (ps_ret pe_bl)) pss_nil) (pss_cons (ps_if (pt_not (pt_tr (pe_cl c__law_is hr (by decide) tk rfl (pa_cons (pe_bin (os_mul hr tk) (pe_var (i := 0) rfl (Or.inl rfl) nd_x.1 nd_x.2) (pe_var (i := 0) rfl (Or.inl rfl) nd_x.1 nd_x.2)) (pa_cons (pe_tup (pa_cons (pe_bin (os_mul hr tk) (pe_var (i := 2) rfl (Or.inl rfl) nd_u.1 nd_u.2) (pe_var (i := 2) rfl (Or.inl rfl) nd_u.1 nd_u.2)) (pa_cons (pe_bin (os_mul hr tk) (pe_var (i := 3) rfl (Or.inl rfl) nd_v.1 nd_v.2) (pe_var (i := 3) rfl (Or.inl rfl) nd_v.1 nd_v.2)) pa_nil))) pa_nil))))) (pss_one (ps_ret pe_bl)) pss_nil) (pss_cons (ps_if (pt_not (pt_tr (pe_cl c__law_is hr (by decide) tk rfl (pa_cons (pe_mth hr tk (pe_var (i := 0) rfl (Or.inl rfl) nd_x.1 nd_x.2) (pa_cons (pe_var (i := 1) rfl (Or.inl rfl) nd_y.1 nd_y.2) pa_nil)) (pa_cons (pe_tup (pa_cons (pe_bin (os_mul hr tk) (pe_bin (os_mul hr tk) (pe_var (i := 4) rfl (Or.inl rfl) nd_sign.1 nd_sign.2) (pe_var (i := 2) rfl (Or.inl rfl) nd_u.1 nd_u.2)) (pe_var (i := 2) rfl (Or.inl rfl) nd_u.1 nd_u.2)) (pa_cons (pe_bin (os_mul hr tk) (pe_var (i := 3) rfl (Or.inl rfl) nd_v.1 nd_v.2) (pe_var (i := 3) rfl (Or.inl rfl) nd_v.1 nd_v.2)) pa_nil))) pa_nil))))) (pss_one (ps_ret pe_bl)) pss_nil) (pss_cons (ps_if (pt_not (pt_tr (pe_cl c__law_is hr (by decide) tk rfl (pa_cons (pe_mth hr tk (pe_var (i := 1) rfl (Or.inl rfl) nd_y.1 nd_y.2) (pa_cons (pe_var (i := 0) rfl (Or.inl rfl) nd_x.1 nd_x.2) pa_nil)) (pa_cons (pe_tup (pa_cons (pe_bin (os_mul hr tk) (pe_bin (os_mul hr tk) (pe_var (i := 4) rfl (Or.inl rfl) nd_sign.1 nd_sign.2) (pe_var (i := 3) rfl (Or.inl rfl) nd_v.1 nd_v.2)) (pe_var (i := 3) rfl (Or.inl rfl) nd_v.1 nd_v.2)) (pa_cons (pe_bin (os_mul hr tk) (pe_var (i := 2) rfl (Or.inl rfl) nd_u.1 nd_u.2) (pe_var (i := 2) rfl (Or.inl rfl) nd_u.1 nd_u.2)) pa_nil))) pa_nil))))) (pss_one (ps_ret pe_bl)) pss_nil) (pss_one (ps_ret (pe_and (pe_cl c__law_is hr (by decide) tk rfl (pa_cons (pe_bin (os_sub hr tk) (pe_var (i := 0) rfl (Or.inl rfl) nd_x.1 nd_x.2) (pe_var (i := 0) rfl (Or.inl rfl) nd_x.1 nd_x.2)) (pa_cons (pe_tup (pa_cons pe_int (pa_cons pe_int pa_nil))) pa_nil))) (pe_one (pe_cl c__law_is hr (by decide) tk rfl (pa_cons (pe_mth hr tk (pe_var (i := 1) rfl (Or.inl rfl) nd_y.1 nd_y.2) (pa_cons (pe_var (i := 1) rfl (Or.inl rfl) nd_y.1 nd_y.2) pa_nil)) (pa_cons (pe_tup (pa_cons pe_int (pa_cons pe_int pa_nil))) pa_nil)))))))))))))), ?_⟩)
  rintro ds m K E - ⟨x, y, u, v, s, rfl, l, k⟩
  show Ws _ _ _ [some (rq C_Ratio x), some (rq C_Ratio y), some (.int u), some (.int v), some (.int s)] _ _
  dsimp only [cx_G, cx_K]
  have sx := l.sx
  have sy := l.sy
  have xn := l.xn
  have yn := l.yn
  obtain ⟨x1, x2⟩ := l.px
  obtain ⟨y1, y2⟩ := l.py
  have B := l.big
  have bs := Sg.bd l.sg
  have v0 : v ≠ 0 := by have := l.vp; omega
  have u0 : u ≠ 0 := by have := B.u0; omega
  have sv := bs.mul B.bv
  have su := bs.mul B.bu
  have d1 : Dok (x.num * y.den + y.num * x.den) (x.den * y.den) := by
    rw [x1, x2, y1, y2, Int.mul_comm v u]
    exact dok_one (B.plus l.sg)
  have d2 : Dok (x.num * y.den - y.num * x.den) (x.den * y.den) := by
    rw [x1, x2, y1, y2, Int.mul_comm v u]
    exact dok_one (B.minus l.sg)
  have d3 : Dok (y.num * x.den - x.num * y.den) (y.den * x.den) := by
    rw [x1, x2, y1, y2]
    exact dok_one (B.minus' l.sg)
  have d4 : Dok (x.num * y.num) (x.den * y.den) := by
    rw [x1, x2, y1, y2]
    refine dok_abs (Int.mul_ne_zero v0 u0) ?_
    rw [Int.mul_left_comm, l.sg.abs, Int.mul_comm]
  have d5 : Dok (x.num * x.num) (x.den * x.den) := by
    rw [x1, x2]
    exact dok_one B.sq
  have d6 : Dok (x.num * y.den) (x.den * y.num) := by
    rw [x1, x2, y1, y2]
    refine dok_one ?_
    rw [Int.mul_left_comm, l.sg.abs]
    exact B.sq
  have d7 : Dok (y.num * x.den) (y.den * x.num) := by
    rw [x1, x2, y1, y2]
    refine dok_one ?_
    rw [Int.mul_assoc, l.sg.abs, Nat.gcd_comm]
    exact B.sq
  have d8 : Dok (x.num * x.den - x.num * x.den) (x.den * x.den) := by
    rw [Int.sub_self]
    exact dok_zero (Int.mul_ne_zero (den_ne x) (den_ne x))
  have d9 : Dok (y.num * y.den) (y.den * y.num) := by
    rw [Int.mul_comm]
    exact dok_same (Int.mul_ne_zero (den_ne y) (num_ne yn))
  have p8 : x - x = 0 := Rat.sub_self
  have p9 := self_div yn
  walk_at "go_1"
  all_goals first
    | assumption
    | exact B.bu.mulX B.bu (by decide)
    | exact B.bu.mulX B.bv (by decide)
    | exact B.bv.mulX B.bv (by decide)
    | exact bs.mulX B.bv (by decide)
    | exact bs.mulX B.bu (by decide)
    | exact sv.mulX B.bv (by decide)
    | exact su.mulX B.bu (by decide)
    | exact l.p1.1
    | exact l.p1.2
    | exact l.p2.1
    | exact l.p2.2
    | exact l.p3.1
    | exact l.p3.2
    | exact l.p4.1
    | exact l.p4.2
    | exact l.p5.1
    | exact l.p5.2
    | exact l.p6.1
    | exact l.p6.2
    | exact l.p7.1
    | exact l.p7.2
    | (rw [p8]; rfl)
    | (rw [p9]; rfl)
    | exact k
    | skip
/-! order and rounding -/
theorem cq_neg1 {x y : Rat} (h : x < y) : cq x y = -1 := by
  unfold cq
  rw [if_pos h]
theorem cq_pos1 {x y : Rat} (h : y < x) : cq x y = 1 := by
  have e := cq_swap (x := y) (y := x)
  rw [cq_neg1 h] at e
  omega
local macro_rules | `(tactic| walk_at "fld_2") => `(tactic| (with_reducible refine we_fldF ?_))
local macro_rules | `(tactic| walk_at "useWe_2") => `(tactic| first | (with_reducible refine we_mt ?_) | (with_reducible refine we_lst ?_) | fail)
local macro_rules | `(tactic| walk_at "sWe_2") => `(tactic| first
  | ((with_reducible refine we_var (d := ?d) ?hv ?hk); case hv => rfl)
  | (with_reducible first
    | refine we_cint ?_ | refine we_2 ?_ | refine we_cl0 ?_ | refine we_tup ?_ | refine we_1 ?_ | refine we_c2 ?_ | refine we_cbl ?_ | refine we_cnon ?_ | refine we_cty ?_ | refine we_cref ?_
    | refine we_op ?_ | refine we_andV ?_ | refine we_orV ?_ | refine we_notV ?_ | refine we_3 ?_ | refine we_ifx ?_ | refine we_cstr ?_ | refine we_clH ?_)
  | walk_at "fld_2"
  | walk_at "useWe_2")
local macro_rules | `(tactic| walk_at "useW2_2") => `(tactic| first
  | (with_reducible refine w2_addO (by assumption) (by decide) .fixed .fixed ?_) | (with_reducible refine w2_subO (by assumption) (by decide) .fixed .fixed ?_) | (with_reducible refine w2_mulO (by assumption) (by decide) .fixed .fixed ?_) | (with_reducible refine w1_negO (by assumption) (by decide) .fixed ?_) | (with_reducible refine w2_inO (by assumption) (by decide) .fixed ?_) | fail)
local macro_rules | `(tactic| walk_at "sW2_2") => `(tactic| first
  | (with_reducible first
    | refine w2_add ?_ | refine w2_sub ?_ | refine w2_mul ⟨?_, ?_⟩ | refine w2_fdiv ⟨?_, ?_⟩ | refine w2_mod ⟨?_, ?_⟩ | refine w2_pow ⟨?_, ?_⟩ | refine w2_eqI ?_ | refine w2_neI ?_ | refine w2_lt ?_ | refine w2_le ?_ | refine w2_gt ?_ | refine w2_ge ?_ | refine w2_eqFI ?_ | refine w2_neFI ?_)
  | ((with_reducible refine w2_ixT (d := ?d) ⟨?hv, ?hk⟩); case hv => rfl)
  | ((with_reducible refine w2_ixL (d := ?d) ⟨?hv, ?hk⟩); case hv => rfl)
  | ((with_reducible refine w2_ixM (d := ?d) .head ⟨?hv, ?hk⟩); case hv => rfl)
  | (with_reducible first
    | refine w2_eqIH ?_ | refine w2_neIH ?_ | refine w2_mulH ⟨?_, ?_⟩ | refine w2_addH ?_ | refine w2_subH ?_ | refine w2_isN ?_ | refine w2_notN ?_ | refine w2_isB ?_ | refine w2_notB ?_)
  | walk_at "useW2_2")
local macro_rules | `(tactic| walk_at "sWa_2") => `(tactic| with_reducible first | refine wa_nil ?_ | refine wa_cons ?_)
local macro_rules | `(tactic| walk_at "useWs_2") => `(tactic| first | (with_reducible refine ws_rs0 ?_) | (with_reducible refine ws_rs ?_) | fail)
local macro_rules | `(tactic| walk_at "sWs_2") => `(tactic| first
  | (with_reducible first | refine ws_seq ?_ | refine ws_ret ?_ | refine ws_asg ?_ | refine ws_next ?_ | refine ws_drop ?_ | refine ws_par ?_ | refine ws_par3 ?_ | refine ws_fldN ?_ | refine ws_brk ?_ | refine ws_cont ?_)
  | walk_at "useWs_2")
local macro_rules | `(tactic| walk_at "sWt_2") => `(tactic| with_reducible first | refine wt_test ?_ | refine wt_tr ?_ | refine wt_and ?_ | refine wt_or ?_ | refine wt_not ?_)
local macro_rules | `(tactic| walk_at "useWc_2") => `(tactic| (with_reducible refine wc_intB ?_))
local macro_rules | `(tactic| walk_at "sWc_2") => `(tactic| first
  | (with_reducible first | refine wc_int ?_ | refine wc_abs ?_ | refine wc_min ?_ | refine wc_gcd ?_ | refine wc_isiT .int kit_ii ?_ | refine wc_isiT .int kit_ib ?_ | refine wc_len .lst ?_ | refine wc_len .tup ?_ | refine wc_strI ?_ ?_)
  | walk_at "useWc_2")
local macro_rules | `(tactic| walk_at "sWg_2") => `(tactic| with_reducible first | refine wg_name ?_ | refine wg_subM ?_ | refine wg_tup rfl ?_)
local macro_rules | `(tactic| walk_at "sW1_2") => `(tactic| first | (with_reducible refine w1_neg ?_) | walk_at "useW2_2")
local macro_rules | `(tactic| walk_at "sWgs_2") => `(tactic| with_reducible first | refine wgs_cons ?_ | refine wgs_nil ?_)
local macro_rules | `(tactic| walk_at "use_2") => `(tactic| first
  | (with_reducible refine mt_of0 (by assumption) (by decide) ?_) | (with_reducible refine use_gcmp (by assumption) (by assumption) ?_) | (with_reducible refine use_gsign ?_) | (with_reducible refine use_gdown ?_ ?_) | (with_reducible refine use_gup ?_ ?_) | fail)
local macro_rules | `(tactic| walk_at "sX_2") => `(tactic| first
  | (with_reducible refine ⟨_, rfl, ?_⟩)
  | (with_reducible refine fld_top (by assumption) ?_) | (with_reducible refine fld_bottom (by assumption) ?_)
  | (with_reducible refine ⟨_, .bl, ?_⟩)
  | ((with_reducible refine ⟨?h, ?_⟩); case h => rfl)
  | (with_reducible refine ⟨_, _, rfl, ?_⟩)
  | (with_reducible refine ⟨_, _, _, rfl, ?_⟩)
  | walk_at "use_2"
  | (with_reducible refine setN_top (by assumption) ?_) | (with_reducible refine setN_bottom (by assumption) ?_)
  | ((with_reducible refine ⟨_, _, _, ?j, _, rfl, rfl, .head, ?h, .head, ?_⟩); case h => rfl)
  | fail)
local macro_rules | `(tactic| walk_at "st_2") => `(tactic| first
  | ((with_reducible show We _ _ _ _ _ _); walk_at "sWe_2")
  | ((with_reducible show W2 _ _ _ _ _ _ _ _); walk_at "sW2_2")
  | ((with_reducible show Wa _ _ _ _ _ _); walk_at "sWa_2")
  | ((with_reducible show Ws _ _ _ _ _ _); walk_at "sWs_2")
  | ((with_reducible show Wt _ _ _ _ _ _); walk_at "sWt_2")
  | ((with_reducible show Wc _ _ _ _ _ _ _); walk_at "sWc_2")
  | ((with_reducible show Wg _ _ _ _ _ _ _); walk_at "sWg_2")
  | ((with_reducible show W1 _ _ _ _ _ _ _); walk_at "sW1_2")
  | ((with_reducible show Wgs _ _ _ _ _ _ _); walk_at "sWgs_2")
  | walk_at "sX_2" | fail)
local macro_rules | `(tactic| walk_at "wif_2") => `(tactic| (with_reducible refine ws_if ?_))
local macro_rules | `(tactic| walk_at "br_2") => `(tactic| ((with_reducible refine ⟨fun hb => ?_, fun hb => ?_⟩) <;> (try simp only [decide_eq_true_eq, decide_eq_false_iff_not, Bool.not_eq_true', Bool.not_eq_false', Bool.and_eq_true, Bool.or_eq_true, reduceCtorEq, List.length_map, Bool.not_true, Bool.not_false, DL.isNon, not_true_eq_false, not_false_eq_true, Classical.not_not, List.all_cons, List.all_nil, id_eq, Bool.and_self, Bool.true_and, decide_true, decide_false] at hb)))
local macro_rules | `(tactic| walk_at "go_2") => `(tactic| repeat' (first | walk_at "st_2" | walk_at "wif_2" | walk_at "br_2" | fail))
def S_lorder (C : Addr) : SpecD := fun ds m K _ => ∃ x y z u v s, ds = [rq C x, rq C y, rq C z, .int u, .int v, .int s] ∧ LX u v s x y ∧ z = dv v (u + v) ∧ K (.bl true) m
theorem use_lorder {C : Addr} {x y z : Rat} {u v s : Int} {m : Mu} {K : KT} {E : Ex → Mu → Prop} (l : LX u v s x y) (e : z = dv v (u + v)) (k : K (.bl true) m) : S_lorder C [rq C x, rq C y, rq C z, .int u, .int v, .int s] m K E := ⟨_, _, _, _, _, _, rfl, l, e, k⟩
theorem ok_long_order (T : Txt G C_Ratio C_ZeroBottom C_OutOfBounds C_CarryError) (m_Ratio_compare : Met G 1 C_Ratio ["top", "bottom"] "compare" 2 (S_gcmp C_Ratio) []) (m_Ratio_sign : Met G 1 C_Ratio ["top", "bottom"] "sign" 1 (S_gsign C_Ratio) []) (m_Ratio_rounded_down : Met G 1 C_Ratio ["top", "bottom"] "rounded_down" 1 (S_gdown C_Ratio) []) (m_Ratio_rounded_up : Met G 1 C_Ratio ["top", "bottom"] "rounded_up" 1 (S_gup C_Ratio) []) {f : Addr} {fd : FuncData} (F : L2.Fun G.K "_law_long_order" "_law_long_order" s__law_long_order f fd) (b : L2.Binds G.K fd ["x", "y", "z", "u", "v", "sign"] []) : Fnx G 2 f 6 (S_lorder C_Ratio) [] := by
  refine fnx_of F sc__law_long_order rfl b .nil rfl (fun cdv A outer s H FF hr tk => ⟨_, (pss_cons (ps_set (i := 6) sc__law_long_order.nd rfl (Or.inl rfl) (pe_bin (os_sub hr tk) (pe_bin (os_mul hr tk) (pe_var (i := 3) rfl (Or.inl rfl) nd_u.1 nd_u.2) (pe_bin (os_add hr tk) (pe_var (i := 3) rfl (Or.inl rfl) nd_u.1 nd_u.2) (pe_var (i := 4) rfl (Or.inl rfl) nd_v.1 nd_v.2))) (pe_bin (os_mul hr tk) (pe_var (i := 4) rfl (Or.inl rfl) nd_v.1 nd_v.2) (pe_var (i := 4) rfl (Or.inl rfl) nd_v.1 nd_v.2)))) (pss_cons (ps_set (i := 7) sc__law_long_order.nd rfl (Or.inl rfl) (pe_bin (os_sub hr tk) (pe_ct cs_int rfl T.n_int bt_int (pa_cons (pe_cm os_gt (pe_var (i := 6) rfl (Or.inl rfl) nd_gap.1 nd_gap.2) pe_int (nomark _)) pa_nil)) (pe_ct cs_int rfl T.n_int bt_int (pa_cons (pe_cm os_lt (pe_var (i := 6) rfl (Or.inl rfl) nd_gap.1 nd_gap.2) pe_int (nomark _)) pa_nil)))) (pss_cons (ps_if (pt_cm (os_neF hr tk) (pe_lst (pa_cons (pe_mth hr tk (pe_var (i := 0) rfl (Or.inl rfl) nd_x.1 nd_x.2) (pa_cons (pe_var (i := 2) rfl (Or.inl rfl) nd_z.1 nd_z.2) pa_nil)) (pa_cons (pe_mth hr tk (pe_var (i := 2) rfl (Or.inl rfl) nd_z.1 nd_z.2) (pa_cons (pe_var (i := 0) rfl (Or.inl rfl) nd_x.1 nd_x.2) pa_nil)) (pa_cons (pe_mth hr tk (pe_var (i := 0) rfl (Or.inl rfl) nd_x.1 nd_x.2) (pa_cons (pe_var (i := 0) rfl (Or.inl rfl) nd_x.1 nd_x.2) pa_nil)) pa_nil)))) (pe_lst (pa_cons (pe_var (i := 7) rfl (Or.inl rfl) nd_due.1 nd_due.2) (pa_cons (pe_una (us_neg hr tk) (pe_var (i := 7) rfl (Or.inl rfl) nd_due.1 nd_due.2)) (pa_cons pe_int pa_nil)))) (nomark _)) (pss_one (ps_ret pe_bl)) pss_nil) (pss_cons (ps_if (pt_cm (os_neF hr tk) (pe_lst (pa_cons (pe_mth0 hr tk (pe_var (i := 1) rfl (Or.inl rfl) nd_y.1 nd_y.2)) (pa_cons (pe_mth hr tk (pe_var (i := 0) rfl (Or.inl rfl) nd_x.1 nd_x.2) (pa_cons (pe_var (i := 1) rfl (Or.inl rfl) nd_y.1 nd_y.2) pa_nil)) (pa_cons (pe_mth hr tk (pe_var (i := 1) rfl (Or.inl rfl) nd_y.1 nd_y.2) (pa_cons (pe_var (i := 0) rfl (Or.inl rfl) nd_x.1 nd_x.2) pa_nil)) pa_nil)))) (pe_lst (pa_cons (pe_var (i := 5) rfl (Or.inl rfl) nd_sign.1 nd_sign.2) (pa_cons (pe_una (us_neg hr tk) (pe_var (i := 5) rfl (Or.inl rfl) nd_sign.1 nd_sign.2)) (pa_cons (pe_var (i := 5) rfl (Or.inl rfl) nd_sign.1 nd_sign.2) pa_nil)))) (nomark _)) (pss_one (ps_ret pe_bl)) pss_nil) (pss_cons (ps_if (pt_cm (os_neF hr tk) (pe_mth0 hr tk (pe_var (i := 1) rfl (Or.inl rfl) nd_y.1 nd_y.2)) (pe_bin os_fdiv (pe_bin (os_mul hr tk) (pe_var (i := 5) rfl (Or.inl rfl) nd_sign.1 nd_sign.2) (pe_var (i := 4) rfl (Or.inl rfl) nd_v.1 nd_v.2)) (pe_var (i := 3) rfl (Or.inl rfl) nd_u.1 nd_u.2)) (nomark _)) (pss_one (ps_ret pe_bl)) pss_nil) (pss_one (ps_ret (pe_cm (os_eqF hr tk) (pe_mth0 hr tk (pe_var (i := 1) rfl (Or.inl rfl) nd_y.1 nd_y.2)) (pe_una (us_neg hr tk) (pe_bin os_fdiv (pe_bin (os_mul hr tk) (pe_una (us_neg hr tk) (pe_var (i := 5) rfl (Or.inl rfl) nd_sign.1 nd_sign.2)) (pe_var (i := 4) rfl (Or.inl rfl) nd_v.1 nd_v.2)) (pe_var (i := 3) rfl (Or.inl rfl) nd_u.1 nd_u.2))) (nomark _))))))))), ?_⟩)
  rintro ds m K E - ⟨x, y, z, u, v, s, rfl, l, ze, k⟩
  show Ws _ _ _ [some (rq C_Ratio x), some (rq C_Ratio y), some (rq C_Ratio z), some (.int u), some (.int v), some (.int s), none, none] _ _
  dsimp only [cx_G, cx_K]
  have sx := l.sx
  have sy := l.sy
  obtain ⟨x1, x2⟩ := l.px
  obtain ⟨y1, y2⟩ := l.py
  have B := l.big
  have u0 := B.u0
  have v0 := l.vp
  have uv := B.uv
  have bs := Sg.bd l.sg
  obtain ⟨z1, z2⟩ : z.num = v ∧ (z.den : Int) = u + v := by
    rw [ze]
    exact low_of (by omega) B.sum
  have sz : Sz z := ⟨by rw [z1]; exact B.bv.mono (by decide), by rw [z2]; exact (B.bu.add B.bv).mono (by decide)⟩
  have buv : Bd 10001 (u + v) := B.bu.add B.bv
  have due : cq x z = (if decide (0 < u * (u + v) - v * v) then 1 else 0) - (if decide (u * (u + v) - v * v < 0) then 1 else 0) := by
    rw [l.xe, ze, cq_dv v0 (by omega)]
    by_cases h1 : u * (u + v) - v * v < 0
    · rw [if_pos h1, decide_eq_true h1, decide_eq_false (by omega)]
      rfl
    · by_cases h2 : 0 < u * (u + v) - v * v
      · rw [if_neg h1, if_pos h2, decide_eq_true h2, decide_eq_false h1]
        rfl
      · rw [if_neg h1, if_neg h2, decide_eq_false h2, decide_eq_false h1]
        rfl
  have due2 : cq z x = -((if decide (0 < u * (u + v) - v * v) then 1 else 0) - (if decide (u * (u + v) - v * v < 0) then 1 else 0)) := by rw [← due]; exact cq_swap
  have due3 : cq x x = 0 := cq_self
  have lt : dv u v < dv v u := by
    rw [lt_dv v0 u0]
    exact Int.lt_of_lt_of_le (Int.mul_lt_mul_of_pos_right uv u0) (Int.mul_le_mul_of_nonneg_left (Int.le_of_lt uv) (by omega))
  have xp : 0 < x := by rw [l.xe]; exact (dv_pos v0).mpr u0
  have o1 : cq y 0 = s ∧ cq x y = -s ∧ cq y x = s := by
    rcases l.sg with h | h
    · have ye := l.ye
      rw [h, Int.one_mul] at ye
      have yp : 0 < y := by rw [ye]; exact (dv_pos u0).mpr v0
      have xy : x < y := by rw [l.xe, ye]; exact lt
      rw [h]
      exact ⟨cq_pos1 yp, cq_neg1 xy, cq_pos1 xy⟩
    · have ye := l.ye
      rw [h] at ye
      have yn : y < 0 := by rw [ye]; exact (dv_neg u0).mpr (by omega)
      have xy : y < x := Std.lt_trans yn xp
      rw [h]
      exact ⟨cq_neg1 yn, cq_pos1 xy, cq_neg1 xy⟩
  obtain ⟨o1, o2, o3⟩ := o1
  have cd : CDivX (s * v) u := ⟨by omega, .inr (log_le (by rw [l.sg.abs]; have := B.v2; omega) (by omega))⟩
  have cd2 : CDivX (-s * v) u := ⟨by omega, .inr (log_le (by rw [l.sg.neg.abs]; have := B.v2; omega) (by omega))⟩
  have f1 : y.num / (y.den : Int) = (s * v).fdiv u := by
    rw [y1, y2, Int.fdiv_eq_ediv_of_nonneg _ (by omega)]
  have f2 : -(-y.num / (y.den : Int)) = -((-s * v).fdiv u) := by
    rw [y1, y2, Int.fdiv_eq_ediv_of_nonneg _ (by omega), Int.neg_mul]
  walk_at "go_2"
  all_goals first
    | exact B.bu.mulX buv (by decide)
    | exact B.bv.mulX B.bv (by decide)
    | exact bs.mulX B.bv (by decide)
    | exact bs.neg.mulX B.bv (by decide)
    | skip
  rw [due2, due3, due]
  refine w2_neFs (.lst (.cons (.int _) (.cons (.int _) (.cons (.int _) .nil)))) rfl ?_
  walk_at "go_2"
  rw [o1, o2, o3]
  refine w2_neFs (.lst (.cons (.int _) (.cons (.int _) (.cons (.int _) .nil)))) rfl ?_
  walk_at "go_2"
  all_goals first
    | exact bs.mulX B.bv (by decide)
    | exact bs.neg.mulX B.bv (by decide)
    | exact cd
    | exact cd2
    | (rw [y1, y2]; exact cd)
    | (rw [y1, y2, ← Int.neg_mul]; exact cd2)
    | exact absurd f1 ‹_›
    | (rw [decide_eq_true f2]; exact k)
    | skip
  all_goals trace_state
end
end K01
set_option Elab.async false
set_option linter.all false
set_option maxRecDepth 100000
set_option maxHeartbeats 4000000
namespace K01
open PySem PySem.Spec L2 DL
open PyProof.Rows hiding St
/-! one step, by the goal's head -/

/-! Ratio and Span by numbers: their promises used -/

/-- a fraction made: as it is told -/
structure RatH (C : Addr) (t b : Int) (m : Mu) (K : KT) : Prop where
  nz : b ≠ 0
  ok : Dok t b
  k : K (rq C (dv t b)) m
theorem RatH.scaled {C : Addr} {t b n : Int} {m : Mu} {K : KT} (h0 : b ≠ 0) (h1 : n ≠ 0) (ok : Dok (t * n) (b * n)) (k : K (rq C (dv t b)) m) : RatH C (t * n) (b * n) m K := ⟨Int.mul_ne_zero h0 h1, ok, by rw [dv_scale h1]; exact k⟩
theorem we_ratH {W : WX} {E : ET} {ta : TA} {r : Rho} {m : Mu} {K : KT} {C Z : Addr} (h : Wa W E ta r m fun ds m1 => ∃ p q, ds = [.int p, .int q] ∧ RatH C p q m1 K) : We W E (tMk C 3 (S_ginit C Z) [] W ta) r m K :=
  we_ratG (h.imp fun ds m1 ⟨p, q, e, q1⟩ => ⟨p, q, e, q1.nz, q1.ok, q1.k⟩)
theorem dok_k {a b k : Int} (n : b ≠ 0) (hk : k ≠ 0) (bk : Bd 3 k) (h : Nat.gcd a.natAbs b.natAbs = 1) : Dok (a * k) (b * k) := by
  refine dok_gc (a := 3) (Int.mul_ne_zero n hk) ?_ (by decide)
  unfold gc
  rw [Int.natAbs_mul, Int.natAbs_mul, Nat.gcd_mul_right, h, Nat.one_mul]
  unfold Bd at *
  rw [Int.natAbs_natCast]
  exact bk
section
variable {G : Gx} {C_Ratio C_ZeroBottom C_OutOfBounds C_CarryError : Addr}
local macro_rules | `(tactic| walk_at "fld_1") => `(tactic| (with_reducible refine we_fldF ?_))
local macro_rules | `(tactic| walk_at "useWe_1") => `(tactic| first | (with_reducible refine we_mt ?_) | (with_reducible refine we_ratH ?_) | fail)
local macro_rules | `(tactic| walk_at "sWe_1") => `(tactic| first
  | ((with_reducible refine we_var (d := ?d) ?hv ?hk); case hv => rfl)
  | (with_reducible first
    | refine we_cint ?_ | refine we_2 ?_ | refine we_cl0 ?_ | refine we_tup ?_ | refine we_1 ?_ | refine we_c2 ?_ | refine we_cbl ?_ | refine we_cnon ?_ | refine we_cty ?_ | refine we_cref ?_
    | refine we_op ?_ | refine we_andV ?_ | refine we_orV ?_ | refine we_notV ?_ | refine we_3 ?_ | refine we_ifx ?_ | refine we_cstr ?_ | refine we_clH ?_)
  | walk_at "fld_1"
  | walk_at "useWe_1")
local macro_rules | `(tactic| walk_at "useW2_1") => `(tactic| first | (with_reducible refine w1_negO (by assumption) (by decide) .fixed ?_) | (with_reducible refine w2_powO (by assumption) (by decide) .fixed (by assumption) ?_) | fail)
local macro_rules | `(tactic| walk_at "sW2_1") => `(tactic| first
  | (with_reducible first
    | refine w2_add ?_ | refine w2_sub ?_ | refine w2_mul ⟨?_, ?_⟩ | refine w2_fdiv ⟨?_, ?_⟩ | refine w2_mod ⟨?_, ?_⟩ | refine w2_pow ⟨?_, ?_⟩ | refine w2_eqI ?_ | refine w2_neI ?_ | refine w2_lt ?_ | refine w2_le ?_ | refine w2_gt ?_ | refine w2_ge ?_ | refine w2_eqFI ?_ | refine w2_neFI ?_)
  | ((with_reducible refine w2_ixT (d := ?d) ⟨?hv, ?hk⟩); case hv => rfl)
  | ((with_reducible refine w2_ixL (d := ?d) ⟨?hv, ?hk⟩); case hv => rfl)
  | ((with_reducible refine w2_ixM (d := ?d) .head ⟨?hv, ?hk⟩); case hv => rfl)
  | (with_reducible first
    | refine w2_eqIH ?_ | refine w2_neIH ?_ | refine w2_mulH ⟨?_, ?_⟩ | refine w2_addH ?_ | refine w2_subH ?_ | refine w2_isN ?_ | refine w2_notN ?_ | refine w2_isB ?_ | refine w2_notB ?_)
  | walk_at "useW2_1")
local macro_rules | `(tactic| walk_at "sWa_1") => `(tactic| with_reducible first | refine wa_nil ?_ | refine wa_cons ?_)
local macro_rules | `(tactic| walk_at "useWs_1") => `(tactic| first | (with_reducible refine ws_rs0 ?_) | (with_reducible refine ws_rs ?_) | fail)
local macro_rules | `(tactic| walk_at "sWs_1") => `(tactic| first
  | (with_reducible first | refine ws_seq ?_ | refine ws_ret ?_ | refine ws_asg ?_ | refine ws_next ?_ | refine ws_drop ?_ | refine ws_par ?_ | refine ws_par3 ?_ | refine ws_fldN ?_ | refine ws_brk ?_ | refine ws_cont ?_)
  | walk_at "useWs_1")
local macro_rules | `(tactic| walk_at "sWt_1") => `(tactic| with_reducible first | refine wt_test ?_ | refine wt_tr ?_ | refine wt_and ?_ | refine wt_or ?_ | refine wt_not ?_)
local macro_rules | `(tactic| walk_at "useWc_1") => `(tactic| first | (with_reducible refine wc_absI ?_) | (with_reducible refine wc_absO (by assumption) (by decide) .fixed ?_) | fail)
local macro_rules | `(tactic| walk_at "sWc_1") => `(tactic| first
  | (with_reducible first | refine wc_int ?_ | refine wc_abs ?_ | refine wc_min ?_ | refine wc_gcd ?_ | refine wc_isiT .int kit_ii ?_ | refine wc_isiT .int kit_ib ?_ | refine wc_len .lst ?_ | refine wc_len .tup ?_ | refine wc_strI ?_ ?_)
  | walk_at "useWc_1")
local macro_rules | `(tactic| walk_at "sWg_1") => `(tactic| with_reducible first | refine wg_name ?_ | refine wg_subM ?_ | refine wg_tup rfl ?_)
local macro_rules | `(tactic| walk_at "sW1_1") => `(tactic| first | (with_reducible refine w1_neg ?_) | walk_at "useW2_1")
local macro_rules | `(tactic| walk_at "sWgs_1") => `(tactic| with_reducible first | refine wgs_cons ?_ | refine wgs_nil ?_)
local macro_rules | `(tactic| walk_at "use_1") => `(tactic| first
  | (with_reducible refine RatH.scaled ?_ (by assumption) ?_ ?_) | (with_reducible refine RatH.mk ?_ ?_ ?_) | (with_reducible refine use_digit ?_ ?_ (by assumption) fun dg m' d0 d1 hpm => ?_) | (with_reducible refine use_handed ?_ ?_ (by assumption) fun n m' n0 bn hpm => ?_)
  | (with_reducible refine mt_of0 (by assumption) (by decide) ?_) | (with_reducible refine use_is ?_ ?_ ?_) | (with_reducible refine use_gneg ?_) | (with_reducible refine use_gabs ?_) | (with_reducible refine use_graised (by assumption) (by decide) (by decide) ?_)
  | (with_reducible refine use_lfour (by assumption) ?_) | (with_reducible refine use_lorder (by assumption) (by assumption) ?_) | (with_reducible refine use_simp ?_ ?_ ?_) | fail)
local macro_rules | `(tactic| walk_at "sX_1") => `(tactic| first
  | (with_reducible refine ⟨_, rfl, ?_⟩)
  | (with_reducible refine fld_top (by assumption) ?_) | (with_reducible refine fld_bottom (by assumption) ?_)
  | (with_reducible refine ⟨_, .bl, ?_⟩)
  | ((with_reducible refine ⟨?h, ?_⟩); case h => rfl)
  | (with_reducible refine ⟨_, _, rfl, ?_⟩)
  | (with_reducible refine ⟨_, _, _, rfl, ?_⟩)
  | walk_at "use_1"
  | (with_reducible refine setN_top (by assumption) ?_) | (with_reducible refine setN_bottom (by assumption) ?_)
  | ((with_reducible refine ⟨_, _, _, ?j, _, rfl, rfl, .head, ?h, .head, ?_⟩); case h => rfl)
  | fail)
local macro_rules | `(tactic| walk_at "st_1") => `(tactic| first
  | ((with_reducible show We _ _ _ _ _ _); walk_at "sWe_1")
  | ((with_reducible show W2 _ _ _ _ _ _ _ _); walk_at "sW2_1")
  | ((with_reducible show Wa _ _ _ _ _ _); walk_at "sWa_1")
  | ((with_reducible show Ws _ _ _ _ _ _); walk_at "sWs_1")
  | ((with_reducible show Wt _ _ _ _ _ _); walk_at "sWt_1")
  | ((with_reducible show Wc _ _ _ _ _ _ _); walk_at "sWc_1")
  | ((with_reducible show Wg _ _ _ _ _ _ _); walk_at "sWg_1")
  | ((with_reducible show W1 _ _ _ _ _ _ _); walk_at "sW1_1")
  | ((with_reducible show Wgs _ _ _ _ _ _ _); walk_at "sWgs_1")
  | walk_at "sX_1" | fail)
local macro_rules | `(tactic| walk_at "wif_1") => `(tactic| (with_reducible refine ws_if ?_))
local macro_rules | `(tactic| walk_at "br_1") => `(tactic| ((with_reducible refine ⟨fun hb => ?_, fun hb => ?_⟩) <;> (try simp only [decide_eq_true_eq, decide_eq_false_iff_not, Bool.not_eq_true', Bool.not_eq_false', Bool.and_eq_true, Bool.or_eq_true, reduceCtorEq, List.length_map, Bool.not_true, Bool.not_false, DL.isNon, not_true_eq_false, not_false_eq_true, Classical.not_not, List.all_cons, List.all_nil, id_eq, Bool.and_self, Bool.true_and, decide_true, decide_false] at hb)))
local macro_rules | `(tactic| walk_at "go_1") => `(tactic| repeat' (first | walk_at "st_1" | walk_at "wif_1" | walk_at "br_1" | fail))
def S_long (C : Addr) : SpecD := fun ds m K _ => ∃ p m0 c, ds = [.ref p, prq c] ∧ Qb 2 c ∧ PotM p m0 m ∧ ∀ m', PotM p m0 m' → K (.bl true) m'
theorem use_long {C p : Addr} {c : Rat} {m m0 : Mu} {K : KT} {E : Ex → Mu → Prop} (hc : Qb 2 c) (hm : PotM p m0 m) (h : ∀ m', PotM p m0 m' → K (.bl true) m') : S_long C [.ref p, prq c] m K E := ⟨p, m0, c, rfl, hc, hm, h⟩
theorem ok_long (T : Txt G C_Ratio C_ZeroBottom C_OutOfBounds C_CarryError) (pc : PowC G.K C_Ratio) (k_Ratio : Mak G 1 "Ratio" C_Ratio 3 (S_ginit C_Ratio C_ZeroBottom) []) (m_Ratio_raised : Met G 3 C_Ratio ["top", "bottom"] "raised" 2 (S_graised C_Ratio C_OutOfBounds) []) (o_Ratio___neg__ : Opr G 3 C_Ratio "__neg__" 1 (S_gneg C_Ratio)) (o_Ratio___abs__ : Opr G 3 C_Ratio "__abs__" 1 (S_gabs C_Ratio)) (o_Ratio___pow__ : Opr G 4 C_Ratio "__pow__" 2 (S_graised C_Ratio C_OutOfBounds)) (c_simplest : Cal G 4 "simplest" 2 (S_simp C_Ratio) []) (c__law_digit : Cal G 1 "_law_digit" 2 S_digit []) (c__law_handed : Cal G 2 "_law_handed" 2 S_handed []) (c__law_is : Cal G 1 "_law_is" 2 (S_is C_Ratio) []) (c__law_long_four : Cal G 4 "_law_long_four" 5 (S_lfour C_Ratio) []) (c__law_long_order : Cal G 2 "_law_long_order" 6 (S_lorder C_Ratio) []) {f : Addr} {fd : FuncData} (F : L2.Fun G.K "_law_long" "_law_long" s__law_long f fd) (b : L2.Binds G.K fd ["pot", "c"] []) : Fnx G 5 f 2 (S_long C_Ratio) [] := by
  refine fnx_of F sc__law_long rfl b .nil rfl (fun cdv A outer s H FF hr tk => ⟨_, (pss_cons (ps_set (i := 2) sc__law_long.nd rfl (Or.inl rfl) (pe_cl c__law_digit hr (by decide) tk rfl (pa_cons (pe_var (i := 0) rfl (Or.inl rfl) nd_pot.1 nd_pot.2) (pa_cons pe_int pa_nil)))) (pss_cons (ps_set (i := 3) sc__law_long.nd rfl (Or.inl rfl) (pe_cb (cs_absO hr tk) rfl T.n_abs bt_abs (pa_cons (pe_ix ix_seq (pe_var (i := 1) rfl (Or.inl rfl) nd_c.1 nd_c.2) pe_int (fun _ _ => rfl)) pa_nil))) (pss_cons (ps_set (i := 4) sc__law_long.nd rfl (Or.inl rfl) (pe_ix ix_seq (pe_var (i := 1) rfl (Or.inl rfl) nd_c.1 nd_c.2) pe_int (fun _ _ => rfl))) (pss_cons (ps_for (passes_of rfl) rfl (pi_range1 rfl T.n_range (pa_cons (pe_bin (os_add hr tk) pe_int (pe_bin (os_mul hr tk) pe_int (pe_var (i := 2) rfl (Or.inl rfl) nd_size.1 nd_size.2))) pa_nil)) (pg_name (i := 5) sc__law_long.nd rfl (Or.inl rfl)) (pss_cons (ps_set (i := 6) sc__law_long.nd rfl (Or.inl rfl) (pe_bin (os_add hr tk) (pe_var (i := 3) rfl (Or.inl rfl) nd_u.1 nd_u.2) (pe_var (i := 4) rfl (Or.inl rfl) nd_v.1 nd_v.2))) (pss_cons (ps_set (i := 3) sc__law_long.nd rfl (Or.inl rfl) (pe_var (i := 4) rfl (Or.inl rfl) nd_v.1 nd_v.2)) (pss_one (ps_set (i := 4) sc__law_long.nd rfl (Or.inl rfl) (pe_var (i := 6) rfl (Or.inl rfl) nd_last.1 nd_last.2)))))) (pss_cons (ps_set (i := 7) sc__law_long.nd rfl (Or.inl rfl) (pe_bin (os_sub hr tk) pe_int (pe_bin (os_mul hr tk) pe_int (pe_cl c__law_digit hr (by decide) tk rfl (pa_cons (pe_var (i := 0) rfl (Or.inl rfl) nd_pot.1 nd_pot.2) (pa_cons pe_int pa_nil)))))) (pss_cons (ps_set (i := 8) sc__law_long.nd rfl (Or.inl rfl) (pe_cl c__law_handed hr (by decide) tk rfl (pa_cons (pe_var (i := 0) rfl (Or.inl rfl) nd_pot.1 nd_pot.2) (pa_cons (pe_tup (pa_cons (pe_var (i := 3) rfl (Or.inl rfl) nd_u.1 nd_u.2) (pa_cons (pe_var (i := 4) rfl (Or.inl rfl) nd_v.1 nd_v.2) pa_nil))) pa_nil)))) (pss_cons (ps_set (i := 9) sc__law_long.nd rfl (Or.inl rfl) (pe_cl c__law_handed hr (by decide) tk rfl (pa_cons (pe_var (i := 0) rfl (Or.inl rfl) nd_pot.1 nd_pot.2) (pa_cons (pe_tup (pa_cons (pe_bin (os_mul hr tk) (pe_var (i := 7) rfl (Or.inl rfl) nd_sign.1 nd_sign.2) (pe_var (i := 4) rfl (Or.inl rfl) nd_v.1 nd_v.2)) (pa_cons (pe_var (i := 3) rfl (Or.inl rfl) nd_u.1 nd_u.2) pa_nil))) pa_nil)))) (pss_cons (ps_set (i := 10) sc__law_long.nd rfl (Or.inl rfl) (pe_mak k_Ratio hr (by decide) tk rfl (pa_cons (pe_ix ix_seq (pe_var (i := 8) rfl (Or.inl rfl) nd_first.1 nd_first.2) pe_int (fun _ _ => rfl)) (pa_cons (pe_ix ix_seq (pe_var (i := 8) rfl (Or.inl rfl) nd_first.1 nd_first.2) pe_int (fun _ _ => rfl)) pa_nil)))) (pss_cons (ps_set (i := 11) sc__law_long.nd rfl (Or.inl rfl) (pe_mak k_Ratio hr (by decide) tk rfl (pa_cons (pe_ix ix_seq (pe_var (i := 9) rfl (Or.inl rfl) nd_second.1 nd_second.2) pe_int (fun _ _ => rfl)) (pa_cons (pe_ix ix_seq (pe_var (i := 9) rfl (Or.inl rfl) nd_second.1 nd_second.2) pe_int (fun _ _ => rfl)) pa_nil)))) (pss_cons (ps_set (i := 12) sc__law_long.nd rfl (Or.inl rfl) (pe_mak k_Ratio hr (by decide) tk rfl (pa_cons (pe_var (i := 4) rfl (Or.inl rfl) nd_v.1 nd_v.2) (pa_cons (pe_bin (os_add hr tk) (pe_var (i := 3) rfl (Or.inl rfl) nd_u.1 nd_u.2) (pe_var (i := 4) rfl (Or.inl rfl) nd_v.1 nd_v.2)) pa_nil)))) (pss_cons (ps_if (PW.pt (pw_or (pt_not (pt_tr (pe_cl c__law_is hr (by decide) tk rfl (pa_cons (pe_var (i := 10) rfl (Or.inl rfl) nd_x.1 nd_x.2) (pa_cons (pe_tup (pa_cons (pe_var (i := 3) rfl (Or.inl rfl) nd_u.1 nd_u.2) (pa_cons (pe_var (i := 4) rfl (Or.inl rfl) nd_v.1 nd_v.2) pa_nil))) pa_nil))))) (pw_or1 (pt_not (pt_tr (pe_cl c__law_is hr (by decide) tk rfl (pa_cons (pe_var (i := 11) rfl (Or.inl rfl) nd_y.1 nd_y.2) (pa_cons (pe_tup (pa_cons (pe_bin (os_mul hr tk) (pe_var (i := 7) rfl (Or.inl rfl) nd_sign.1 nd_sign.2) (pe_var (i := 4) rfl (Or.inl rfl) nd_v.1 nd_v.2)) (pa_cons (pe_var (i := 3) rfl (Or.inl rfl) nd_u.1 nd_u.2) pa_nil))) pa_nil)))))))) (pss_one (ps_ret pe_bl)) pss_nil) (pss_cons (ps_if (PW.pt (pw_or (pt_not (pt_tr (pe_cl c__law_is hr (by decide) tk rfl (pa_cons (pe_una (us_neg hr tk) (pe_var (i := 10) rfl (Or.inl rfl) nd_x.1 nd_x.2)) (pa_cons (pe_tup (pa_cons (pe_una (us_neg hr tk) (pe_var (i := 3) rfl (Or.inl rfl) nd_u.1 nd_u.2)) (pa_cons (pe_var (i := 4) rfl (Or.inl rfl) nd_v.1 nd_v.2) pa_nil))) pa_nil))))) (pw_or1 (pt_not (pt_tr (pe_cl c__law_is hr (by decide) tk rfl (pa_cons (pe_cb (cs_absO hr tk) rfl T.n_abs bt_abs (pa_cons (pe_var (i := 11) rfl (Or.inl rfl) nd_y.1 nd_y.2) pa_nil)) (pa_cons (pe_tup (pa_cons (pe_var (i := 4) rfl (Or.inl rfl) nd_v.1 nd_v.2) (pa_cons (pe_var (i := 3) rfl (Or.inl rfl) nd_u.1 nd_u.2) pa_nil))) pa_nil)))))))) (pss_one (ps_ret pe_bl)) pss_nil) (pss_cons (ps_if (PW.pt (pw_or (pt_not (pt_tr (pe_cl c__law_is hr (by decide) tk rfl (pa_cons (pe_var (i := 12) rfl (Or.inl rfl) nd_z.1 nd_z.2) (pa_cons (pe_tup (pa_cons (pe_var (i := 4) rfl (Or.inl rfl) nd_v.1 nd_v.2) (pa_cons (pe_bin (os_add hr tk) (pe_var (i := 3) rfl (Or.inl rfl) nd_u.1 nd_u.2) (pe_var (i := 4) rfl (Or.inl rfl) nd_v.1 nd_v.2)) pa_nil))) pa_nil))))) (pw_or1 (pt_not (pt_tr (pe_cl c__law_is hr (by decide) tk rfl (pa_cons (pe_cb (cs_absO hr tk) rfl T.n_abs bt_abs (pa_cons (pe_var (i := 12) rfl (Or.inl rfl) nd_z.1 nd_z.2) pa_nil)) (pa_cons (pe_tup (pa_cons (pe_var (i := 4) rfl (Or.inl rfl) nd_v.1 nd_v.2) (pa_cons (pe_bin (os_add hr tk) (pe_var (i := 3) rfl (Or.inl rfl) nd_u.1 nd_u.2) (pe_var (i := 4) rfl (Or.inl rfl) nd_v.1 nd_v.2)) pa_nil))) pa_nil)))))))) (pss_one (ps_ret pe_bl)) pss_nil) (pss_cons (ps_if (pt_not (pt_tr (pe_cl c__law_long_four hr (by decide) tk rfl (pa_cons (pe_var (i := 10) rfl (Or.inl rfl) nd_x.1 nd_x.2) (pa_cons (pe_var (i := 11) rfl (Or.inl rfl) nd_y.1 nd_y.2) (pa_cons (pe_var (i := 3) rfl (Or.inl rfl) nd_u.1 nd_u.2) (pa_cons (pe_var (i := 4) rfl (Or.inl rfl) nd_v.1 nd_v.2) (pa_cons (pe_var (i := 7) rfl (Or.inl rfl) nd_sign.1 nd_sign.2) pa_nil)))))))) (pss_one (ps_ret pe_bl)) pss_nil) (pss_cons (ps_if (pt_not (pt_tr (pe_cl c__law_long_order hr (by decide) tk rfl (pa_cons (pe_var (i := 10) rfl (Or.inl rfl) nd_x.1 nd_x.2) (pa_cons (pe_var (i := 11) rfl (Or.inl rfl) nd_y.1 nd_y.2) (pa_cons (pe_var (i := 12) rfl (Or.inl rfl) nd_z.1 nd_z.2) (pa_cons (pe_var (i := 3) rfl (Or.inl rfl) nd_u.1 nd_u.2) (pa_cons (pe_var (i := 4) rfl (Or.inl rfl) nd_v.1 nd_v.2) (pa_cons (pe_var (i := 7) rfl (Or.inl rfl) nd_sign.1 nd_sign.2) pa_nil))))))))) (pss_one (ps_ret pe_bl)) pss_nil) (pss_cons (ps_if (pt_not (pt_tr (pe_cl c__law_is hr (by decide) tk rfl (pa_cons (pe_mth hr tk (pe_var (i := 10) rfl (Or.inl rfl) nd_x.1 nd_x.2) (pa_cons pe_int pa_nil)) (pa_cons (pe_tup (pa_cons (pe_bin (os_mul hr tk) (pe_var (i := 3) rfl (Or.inl rfl) nd_u.1 nd_u.2) (pe_var (i := 3) rfl (Or.inl rfl) nd_u.1 nd_u.2)) (pa_cons (pe_bin (os_mul hr tk) (pe_var (i := 4) rfl (Or.inl rfl) nd_v.1 nd_v.2) (pe_var (i := 4) rfl (Or.inl rfl) nd_v.1 nd_v.2)) pa_nil))) pa_nil))))) (pss_one (ps_ret pe_bl)) pss_nil) (pss_cons (ps_if (pt_not (pt_tr (pe_cl c__law_is hr (by decide) tk rfl (pa_cons (pe_bin (os_powF hr tk) (pe_var (i := 11) rfl (Or.inl rfl) nd_y.1 nd_y.2) pe_int) (pa_cons (pe_tup (pa_cons (pe_bin (os_mul hr tk) (pe_bin (os_mul hr tk) (pe_bin (os_mul hr tk) (pe_var (i := 7) rfl (Or.inl rfl) nd_sign.1 nd_sign.2) (pe_var (i := 4) rfl (Or.inl rfl) nd_v.1 nd_v.2)) (pe_var (i := 4) rfl (Or.inl rfl) nd_v.1 nd_v.2)) (pe_var (i := 4) rfl (Or.inl rfl) nd_v.1 nd_v.2)) (pa_cons (pe_bin (os_mul hr tk) (pe_bin (os_mul hr tk) (pe_var (i := 3) rfl (Or.inl rfl) nd_u.1 nd_u.2) (pe_var (i := 3) rfl (Or.inl rfl) nd_u.1 nd_u.2)) (pe_var (i := 3) rfl (Or.inl rfl) nd_u.1 nd_u.2)) pa_nil))) pa_nil))))) (pss_one (ps_ret pe_bl)) pss_nil) (pss_cons (ps_if (PW.pt (pw_and (pt_cm os_lt (pe_var (i := 2) rfl (Or.inl rfl) nd_size.1 nd_size.2) pe_int (nomark _)) (pw_and1 (pt_not (pt_tr (pe_cl c__law_is hr (by decide) tk rfl (pa_cons (pe_cl c_simplest hr (by decide) tk rfl (pa_cons (pe_var (i := 10) rfl (Or.inl rfl) nd_x.1 nd_x.2) (pa_cons (pe_var (i := 10) rfl (Or.inl rfl) nd_x.1 nd_x.2) pa_nil))) (pa_cons (pe_tup (pa_cons (pe_var (i := 3) rfl (Or.inl rfl) nd_u.1 nd_u.2) (pa_cons (pe_var (i := 4) rfl (Or.inl rfl) nd_v.1 nd_v.2) pa_nil))) pa_nil)))))))) (pss_one (ps_ret pe_bl)) pss_nil) (pss_one (ps_ret (pe_and (pe_cl c__law_is hr (by decide) tk rfl (pa_cons (pe_var (i := 10) rfl (Or.inl rfl) nd_x.1 nd_x.2) (pa_cons (pe_tup (pa_cons (pe_var (i := 3) rfl (Or.inl rfl) nd_u.1 nd_u.2) (pa_cons (pe_var (i := 4) rfl (Or.inl rfl) nd_v.1 nd_v.2) pa_nil))) pa_nil))) (pe_one (pe_cl c__law_is hr (by decide) tk rfl (pa_cons (pe_var (i := 11) rfl (Or.inl rfl) nd_y.1 nd_y.2) (pa_cons (pe_tup (pa_cons (pe_bin (os_mul hr tk) (pe_var (i := 7) rfl (Or.inl rfl) nd_sign.1 nd_sign.2) (pe_var (i := 4) rfl (Or.inl rfl) nd_v.1 nd_v.2)) (pa_cons (pe_var (i := 3) rfl (Or.inl rfl) nd_u.1 nd_u.2) pa_nil))) pa_nil))))))))))))))))))))))))), ?_⟩)
  rintro ds m K E - ⟨p, m0, c, rfl, hc, hm, kk⟩
  show Ws _ _ _ [some (.ref p), some (prq c), none, none, none, none, none, none, none, none, none, none, none] _ _
  dsimp only [cx_G, cx_K]
  walk_at "go_1"
  all_goals try first | decide | exact bd_lit (by decide)
  rename_i size m1 s0 s1 hm1
  refine ws_range1 ?_
  walk_at "go_1"
  · exact (show Bd 5 30 from bd_lit (by decide)).mulX (show Bd 8 size by unfold Bd; omega) (by decide)
  refine ⟨1913 + 30 * size, fun i r' m' => m' = m1 ∧ ∃ u v k l, Fb i u v ∧ r' = [some (.ref p), some (prq c), some (.int size), some (.int u), some (.int v), k, l, none, none, none, none, none, none], rfl, by omega, ⟨rfl, _, _, none, none, ?_, rfl⟩, ?_, ?_⟩
  · have t2 := hc.t
    have b2 := hc.b
    exact ⟨by omega, den_pos c, by rw [Int.natAbs_natCast, Int.natAbs_natCast]; exact c.reduced, by unfold Bd at *; rw [Int.natAbs_natCast]; exact t2, b2, fun h => by omega, fun h => by omega⟩
  · rintro i r' m' hi ⟨rfl, u, v, k, l, f, rfl⟩
    walk_at "go_1"
    exact ⟨_, _, _, _, f.step, rfl⟩
  · rintro r' m' ⟨rfl, u, v, k, l, f, rfl⟩
    have B := f.big (by omega) (by omega)
    have u0 := B.u0
    have uv := B.uv
    have v0 : 0 < v := by omega
    have un : u ≠ 0 := by omega
    have vn : v ≠ 0 := by omega
    have bu := B.bu
    have bv := B.bv
    show Ws _ _ _ _ _ _
    refine ws_seq (Ws.cut (fun r' m'' => ∃ s : Int, Sg s ∧ r' = [some (.ref p), some (prq c), some (.int size), some (.int u), some (.int v), k, l, some (.int s), none, none, none, none, none] ∧ PotM p m0 m'') ?_ ?_)
    · walk_at "go_1"
      all_goals first
        | decide
        | exact bd_lit (by decide)
        | exact (show Bd 2 2 from bd_lit (by decide)).mulX (show Bd 2 _ by unfold Bd; omega) (by decide)
        | exact ⟨_, by unfold Sg; omega, rfl, ‹_›⟩
    · rintro r' m'' ⟨s, sg, rfl, hm2⟩
      have bs := Sg.bd sg
      have bsv := bs.mul bv
      have csv : Nat.gcd (s * v).natAbs u.natAbs = 1 := by rw [sg.abs]; exact B.cop'
      have L : LX u v s (dv u v) (dv (s * v) u) := ⟨B, sg, rfl, rfl⟩
      obtain ⟨x1, x2⟩ := L.px
      obtain ⟨y1, y2⟩ := L.py
      obtain ⟨z1, z2⟩ := low_of (a := v) (b := u + v) (by omega) B.sum
      have zz : dv v (u + v) = dv v (u + v) := rfl
      have ax := qabs_num (x := dv u v)
      have ay := qabs_num (x := dv (s * v) u)
      have az := qabs_num (x := dv v (u + v))
      have qx : Qb 15000 (dv u v) := ⟨by rw [x1]; exact bu.mono (by decide), by rw [x2]; exact bv.mono (by decide)⟩
      have qy : Qb 15000 (dv (s * v) u) := ⟨by rw [y1]; exact bsv.mono (by decide), by rw [y2]; exact bu.mono (by decide)⟩
      have small : size < 64 → Qb 4000 (dv u v) := fun h => ⟨by rw [x1]; exact f.bu.mono (by omega), by rw [x2]; exact f.bv.mono (by omega)⟩
      have e2 : ∀ a : Int, a ^ 2 = a * a := fun a => by grind
      have e3 : ∀ a : Int, a ^ 3 = a * a * a := fun a => by grind
      have q1 : (dv u v ^ 2).num = u * u := by
        rw [Rat.num_pow, x1, e2]
      have q2 : ((dv u v ^ 2).den : Int) = v * v := by
        rw [pow_den, x2, e2]
      have q3 : (dv (s * v) u ^ 3).num = s * v * v * v := by
        rw [Rat.num_pow, y1, e3]
        rcases sg with h | h
        · subst h
          grind
        · subst h
          grind
      have q4 : ((dv (s * v) u ^ 3).den : Int) = u * u * u := by
        rw [pow_den, y2, e3]
      have a1 : (qabs (dv (s * v) u)).num = v := by
        rw [ay.1, y1, sg.abs]
        omega
      have a2 : ((qabs (dv (s * v) u)).den : Int) = u := ay.2.trans y2
      have a3 : (qabs (dv v (u + v))).num = v := by
        rw [az.1, z1]
        omega
      have a4 : ((qabs (dv v (u + v))).den : Int) = u + v := az.2.trans z2
      have n1 : (-dv u v).num = -u := by
        show -(dv u v).num = -u
        rw [x1]
      walk_at "go_1"
      all_goals first
        | with_reducible assumption
        | exact bu.mono (by decide)
        | exact bv.mono (by decide)
        | exact bsv.mono (by decide)
        | exact bs.mulX bv (by decide)
        | exact bu.mulX bu (by decide)
        | exact bv.mulX bv (by decide)
        | exact bsv.mulX bv (by decide)
        | exact (bsv.mul bv).mulX bv (by decide)
        | exact (bu.mul bu).mulX bu (by decide)
        | exact dok_k vn (by assumption) (by assumption) B.cop
        | exact dok_k un (by assumption) (by assumption) csv
        | exact dok_one B.sum
        | exact x1
        | exact x2
        | exact y1
        | exact y2
        | exact z1
        | exact z2
        | exact q1
        | exact q2
        | exact q3
        | exact q4
        | exact small (by assumption)
        | exact kk _ (by assumption)
        | (rw [x1]; exact u0)
        | omega
        | skip
      all_goals trace_state
end
end K01
set_option Elab.async false
set_option linter.all false
set_option maxRecDepth 100000
set_option maxHeartbeats 4000000
namespace K01
open PySem PySem.Spec L2 DL
open PyProof.Rows hiding St
/-! one step, by the goal's head -/

/-! Ratio and Span by numbers: their promises used -/

section
variable {G : Gx} {C_Ratio C_ZeroBottom C_OutOfBounds C_CarryError : Addr}
structure LawS (X Y Z : Rat) (g many lo hi : Int) : Prop where
  x : Qb 240 X
  y : Qb 240 Y
  z : Qb 240 Z
  z2 : Qb 2 Z
  g : g ≠ 0
  m0 : 0 ≤ many
  m1 : many ≤ 64
  lo : lo < 0
  hi : 64 < hi
theorem three {i : Int} (h0 : 0 ≤ i) (h1 : i < 3) : ∃ e : Int, atI [D.int 2, D.int 3, D.int 1] i = some (.int e) ∧ 1 ≤ e ∧ e ≤ 3 := by
  obtain ⟨n, rfl⟩ := Int.eq_ofNat_of_zero_le h0
  have hn : n < 3 := by omega
  match n, hn with
  | 0, _ => exact ⟨2, rfl, by decide, by decide⟩
  | 1, _ => exact ⟨3, rfl, by decide, by decide⟩
  | 2, _ => exact ⟨1, rfl, by decide, by decide⟩
local macro_rules | `(tactic| walk_at "fld_1") => `(tactic| (with_reducible refine we_fldF ?_))
local macro_rules | `(tactic| walk_at "useWe_1") => `(tactic| first | (with_reducible refine we_ratH ?_) | (with_reducible refine we_ratG1 ?_) | (with_reducible refine we_lst ?_) | fail)
local macro_rules | `(tactic| walk_at "sWe_1") => `(tactic| first
  | ((with_reducible refine we_var (d := ?d) ?hv ?hk); case hv => rfl)
  | (with_reducible first
    | refine we_cint ?_ | refine we_2 ?_ | refine we_cl0 ?_ | refine we_tup ?_ | refine we_1 ?_ | refine we_c2 ?_ | refine we_cbl ?_ | refine we_cnon ?_ | refine we_cty ?_ | refine we_cref ?_
    | refine we_op ?_ | refine we_andV ?_ | refine we_orV ?_ | refine we_notV ?_ | refine we_3 ?_ | refine we_ifx ?_ | refine we_cstr ?_ | refine we_clH ?_)
  | walk_at "fld_1"
  | walk_at "useWe_1")
local macro_rules | `(tactic| walk_at "useW2_1") => `(tactic| first
  | (with_reducible refine w2_addO (by assumption) (by decide) .fixed .fixed ?_) | (with_reducible refine w2_subO (by assumption) (by decide) .fixed .fixed ?_) | (with_reducible refine w2_mulO (by assumption) (by decide) .fixed .fixed ?_) | (with_reducible refine w1_negO (by assumption) (by decide) .fixed ?_) | (with_reducible refine w2_inO (by assumption) (by decide) .fixed ?_) | fail)
local macro_rules | `(tactic| walk_at "sW2_1") => `(tactic| first
  | (with_reducible first
    | refine w2_add ?_ | refine w2_sub ?_ | refine w2_mul ⟨?_, ?_⟩ | refine w2_fdiv ⟨?_, ?_⟩ | refine w2_mod ⟨?_, ?_⟩ | refine w2_pow ⟨?_, ?_⟩ | refine w2_eqI ?_ | refine w2_neI ?_ | refine w2_lt ?_ | refine w2_le ?_ | refine w2_gt ?_ | refine w2_ge ?_ | refine w2_eqFI ?_ | refine w2_neFI ?_)
  | ((with_reducible refine w2_ixT (d := ?d) ⟨?hv, ?hk⟩); case hv => rfl)
  | ((with_reducible refine w2_ixL (d := ?d) ⟨?hv, ?hk⟩); case hv => rfl)
  | ((with_reducible refine w2_ixM (d := ?d) .head ⟨?hv, ?hk⟩); case hv => rfl)
  | (with_reducible first
    | refine w2_eqIH ?_ | refine w2_neIH ?_ | refine w2_mulH ⟨?_, ?_⟩ | refine w2_addH ?_ | refine w2_subH ?_ | refine w2_isN ?_ | refine w2_notN ?_ | refine w2_isB ?_ | refine w2_notB ?_)
  | walk_at "useW2_1")
local macro_rules | `(tactic| walk_at "sWa_1") => `(tactic| with_reducible first | refine wa_nil ?_ | refine wa_cons ?_)
local macro_rules | `(tactic| walk_at "useWs_1") => `(tactic| first | (with_reducible refine ws_rs0 ?_) | (with_reducible refine ws_rs ?_) | fail)
local macro_rules | `(tactic| walk_at "sWs_1") => `(tactic| first
  | (with_reducible first | refine ws_seq ?_ | refine ws_ret ?_ | refine ws_asg ?_ | refine ws_next ?_ | refine ws_drop ?_ | refine ws_par ?_ | refine ws_par3 ?_ | refine ws_fldN ?_ | refine ws_brk ?_ | refine ws_cont ?_)
  | walk_at "useWs_1")
local macro_rules | `(tactic| walk_at "sWt_1") => `(tactic| with_reducible first | refine wt_test ?_ | refine wt_tr ?_ | refine wt_and ?_ | refine wt_or ?_ | refine wt_not ?_)
local macro_rules | `(tactic| walk_at "useWc_1") => `(tactic| fail)
local macro_rules | `(tactic| walk_at "sWc_1") => `(tactic| first
  | (with_reducible first | refine wc_int ?_ | refine wc_abs ?_ | refine wc_min ?_ | refine wc_gcd ?_ | refine wc_isiT .int kit_ii ?_ | refine wc_isiT .int kit_ib ?_ | refine wc_len .lst ?_ | refine wc_len .tup ?_ | refine wc_strI ?_ ?_)
  | walk_at "useWc_1")
local macro_rules | `(tactic| walk_at "sWg_1") => `(tactic| with_reducible first | refine wg_name ?_ | refine wg_subM ?_ | refine wg_tup rfl ?_)
local macro_rules | `(tactic| walk_at "sW1_1") => `(tactic| first | (with_reducible refine w1_neg ?_) | walk_at "useW2_1")
local macro_rules | `(tactic| walk_at "sWgs_1") => `(tactic| with_reducible first | refine wgs_cons ?_ | refine wgs_nil ?_)
local macro_rules | `(tactic| walk_at "use_1") => `(tactic| first
  | (with_reducible refine RatH.scaled ?_ (by assumption) ?_ ?_) | (with_reducible refine RatH.mk ?_ ?_ ?_) | (with_reducible refine use_digit ?_ ?_ (by assumption) fun dg m' d0 d1 hpm => ?_) | (with_reducible refine use_fraction (by assumption) fun t b m' fr hpm => ?_) | (with_reducible refine use_handed ?_ ?_ (by assumption) fun n m' n0 bn hpm => ?_)
  | (with_reducible refine use_lowest ?_ ?_ ?_) | (with_reducible refine use_is ?_ ?_ ?_) | (with_reducible refine use_alone (by assumption) ?_) | (with_reducible refine use_four (by assumption) (by assumption) ?_) | (with_reducible refine use_greatp (by assumption) (by assumption) (by assumption) ?_) | (with_reducible refine use_drawn (by assumption) (by assumption) (by assumption) ?_)
  | (with_reducible refine use_nob ?_) | (with_reducible refine use_noq ?_ ?_ ?_ ?_) | (with_reducible refine use_noe ?_ ?_ ?_) | (with_reducible refine use_long (by assumption) (by assumption) fun m' hpm => ?_) | fail)
local macro_rules | `(tactic| walk_at "sX_1") => `(tactic| first
  | (with_reducible refine ⟨_, rfl, ?_⟩)
  | (with_reducible refine fld_top (by assumption) ?_) | (with_reducible refine fld_bottom (by assumption) ?_)
  | (with_reducible refine ⟨_, .bl, ?_⟩)
  | ((with_reducible refine ⟨?h, ?_⟩); case h => rfl)
  | (with_reducible refine ⟨_, _, rfl, ?_⟩)
  | (with_reducible refine ⟨_, _, _, rfl, ?_⟩)
  | walk_at "use_1"
  | (with_reducible refine setN_top (by assumption) ?_) | (with_reducible refine setN_bottom (by assumption) ?_)
  | ((with_reducible refine ⟨_, _, _, ?j, _, rfl, rfl, .head, ?h, .head, ?_⟩); case h => rfl)
  | fail)
local macro_rules | `(tactic| walk_at "st_1") => `(tactic| first
  | ((with_reducible show We _ _ _ _ _ _); walk_at "sWe_1")
  | ((with_reducible show W2 _ _ _ _ _ _ _ _); walk_at "sW2_1")
  | ((with_reducible show Wa _ _ _ _ _ _); walk_at "sWa_1")
  | ((with_reducible show Ws _ _ _ _ _ _); walk_at "sWs_1")
  | ((with_reducible show Wt _ _ _ _ _ _); walk_at "sWt_1")
  | ((with_reducible show Wc _ _ _ _ _ _ _); walk_at "sWc_1")
  | ((with_reducible show Wg _ _ _ _ _ _ _); walk_at "sWg_1")
  | ((with_reducible show W1 _ _ _ _ _ _ _); walk_at "sW1_1")
  | ((with_reducible show Wgs _ _ _ _ _ _ _); walk_at "sWgs_1")
  | walk_at "sX_1" | fail)
local macro_rules | `(tactic| walk_at "br_1") => `(tactic| ((with_reducible refine ⟨fun hb => ?_, fun hb => ?_⟩) <;> (try simp only [decide_eq_true_eq, decide_eq_false_iff_not, Bool.not_eq_true', Bool.not_eq_false', Bool.and_eq_true, Bool.or_eq_true, reduceCtorEq, List.length_map, Bool.not_true, Bool.not_false, DL.isNon, not_true_eq_false, not_false_eq_true, Classical.not_not, List.all_cons, List.all_nil, id_eq, Bool.and_self, Bool.true_and, decide_true, decide_false] at hb)))
local macro_rules | `(tactic| walk_at "gn_1") => `(tactic| repeat' (first | walk_at "st_1" | walk_at "br_1" | fail))
local macro_rules | `(tactic| walk_at "wif_1") => `(tactic| (with_reducible refine ws_if ?_))
local macro_rules | `(tactic| walk_at "go_1") => `(tactic| repeat' (first | walk_at "st_1" | walk_at "wif_1" | walk_at "br_1" | fail))
theorem ok_law (T : Txt G C_Ratio C_ZeroBottom C_OutOfBounds C_CarryError) (k1_Ratio : Mak G 1 "Ratio" C_Ratio 3 (S_ginit C_Ratio C_ZeroBottom) [.int 1]) (k_Ratio : Mak G 1 "Ratio" C_Ratio 3 (S_ginit C_Ratio C_ZeroBottom) []) (c__law_start : Cal G 1 "_law_start" 1 (S_pot G.K) []) (c__law_digit : Cal G 1 "_law_digit" 2 S_digit []) (c__law_fraction : Cal G 2 "_law_fraction" 1 S_fraction []) (c__law_handed : Cal G 2 "_law_handed" 2 S_handed []) (c__law_lowest : Cal G 1 "_law_lowest" 2 S_lowest []) (c__law_is : Cal G 1 "_law_is" 2 (S_is C_Ratio) []) (c__law_no_bottom : Cal G 3 "_law_no_bottom" 1 S_nob []) (c__law_no_quotient : Cal G 4 "_law_no_quotient" 2 (S_noq C_Ratio) []) (c__law_no_exponent : Cal G 4 "_law_no_exponent" 2 (S_noe C_Ratio) []) (c__law_four : Cal G 5 "_law_four" 4 (S_four C_Ratio) []) (c__law_drawn_power : Cal G 4 "_law_drawn_power" 3 (S_drawn C_Ratio) []) (c__law_great_powers : Cal G 6 "_law_great_powers" 3 (S_greatp C_Ratio) []) (c__law_alone : Cal G 6 "_law_alone" 2 (S_alone C_Ratio) []) (c__law_long : Cal G 5 "_law_long" 2 (S_long C_Ratio) []) {f : Addr} {fd : FuncData} (F : L2.Fun G.K "law" "law" s_law f fd) : FnOk G.P G.w G.K G.mg G.base (L2N.CX G.P G.w) 7 f fd ["script"] (spD 1 (S_law G.K)) := by
  refine fnok_of F sc_law rfl (fun cdv A outer s H FF hr tk => ⟨_, (pss_cons (ps_set (i := 1) sc_law.nd rfl (Or.inl rfl) (pe_cl c__law_start hr (by decide) tk rfl (pa_cons (pe_var (i := 0) rfl (Or.inl rfl) nd_script.1 nd_script.2) pa_nil))) (pss_cons (ps_set (i := 2) sc_law.nd rfl (Or.inl rfl) (pe_cl c__law_fraction hr (by decide) tk rfl (pa_cons (pe_var (i := 1) rfl (Or.inl rfl) nd_pot.1 nd_pot.2) pa_nil))) (pss_cons (ps_set (i := 3) sc_law.nd rfl (Or.inl rfl) (pe_cl c__law_fraction hr (by decide) tk rfl (pa_cons (pe_var (i := 1) rfl (Or.inl rfl) nd_pot.1 nd_pot.2) pa_nil))) (pss_cons (ps_set (i := 4) sc_law.nd rfl (Or.inl rfl) (pe_tup (pa_cons (pe_bin (os_sub hr tk) pe_int (pe_cl c__law_digit hr (by decide) tk rfl (pa_cons (pe_var (i := 1) rfl (Or.inl rfl) nd_pot.1 nd_pot.2) (pa_cons pe_int pa_nil)))) (pa_cons (pe_ix ix_seq (pe_lst (pa_cons pe_int (pa_cons pe_int (pa_cons pe_int pa_nil)))) (pe_cl c__law_digit hr (by decide) tk rfl (pa_cons (pe_var (i := 1) rfl (Or.inl rfl) nd_pot.1 nd_pot.2) (pa_cons pe_int pa_nil))) (fun _ _ => rfl)) pa_nil)))) (pss_cons (ps_set (i := 5) sc_law.nd rfl (Or.inl rfl) (pe_cl c__law_digit hr (by decide) tk rfl (pa_cons (pe_var (i := 1) rfl (Or.inl rfl) nd_pot.1 nd_pot.2) (pa_cons pe_int pa_nil)))) (pss_cons (ps_set (i := 6) sc_law.nd rfl (Or.inl rfl) (pe_cl c__law_handed hr (by decide) tk rfl (pa_cons (pe_var (i := 1) rfl (Or.inl rfl) nd_pot.1 nd_pot.2) (pa_cons (pe_var (i := 2) rfl (Or.inl rfl) nd_a.1 nd_a.2) pa_nil)))) (pss_cons (ps_set (i := 7) sc_law.nd rfl (Or.inl rfl) (pe_cl c__law_handed hr (by decide) tk rfl (pa_cons (pe_var (i := 1) rfl (Or.inl rfl) nd_pot.1 nd_pot.2) (pa_cons (pe_var (i := 3) rfl (Or.inl rfl) nd_b.1 nd_b.2) pa_nil)))) (pss_cons (ps_set (i := 8) sc_law.nd rfl (Or.inl rfl) (pe_cl c__law_handed hr (by decide) tk rfl (pa_cons (pe_var (i := 1) rfl (Or.inl rfl) nd_pot.1 nd_pot.2) (pa_cons (pe_var (i := 4) rfl (Or.inl rfl) nd_c.1 nd_c.2) pa_nil)))) (pss_cons (ps_set (i := 9) sc_law.nd rfl (Or.inl rfl) (pe_bin (os_sub hr tk) (pe_una (us_neg hr tk) pe_int) (pe_cl c__law_digit hr (by decide) tk rfl (pa_cons (pe_var (i := 1) rfl (Or.inl rfl) nd_pot.1 nd_pot.2) (pa_cons pe_int pa_nil))))) (pss_cons (ps_set (i := 10) sc_law.nd rfl (Or.inl rfl) (pe_bin (os_add hr tk) pe_int (pe_cl c__law_digit hr (by decide) tk rfl (pa_cons (pe_var (i := 1) rfl (Or.inl rfl) nd_pot.1 nd_pot.2) (pa_cons pe_int pa_nil))))) (pss_cons (ps_set (i := 11) sc_law.nd rfl (Or.inl rfl) (pe_cl c__law_digit hr (by decide) tk rfl (pa_cons (pe_var (i := 1) rfl (Or.inl rfl) nd_pot.1 nd_pot.2) (pa_cons pe_int pa_nil)))) (pss_cons (ps_set (i := 2) sc_law.nd rfl (Or.inl rfl) (pe_cl c__law_lowest hr (by decide) tk rfl (pa_cons (pe_ix ix_seq (pe_var (i := 2) rfl (Or.inl rfl) nd_a.1 nd_a.2) pe_int (fun _ _ => rfl)) (pa_cons (pe_ix ix_seq (pe_var (i := 2) rfl (Or.inl rfl) nd_a.1 nd_a.2) pe_int (fun _ _ => rfl)) pa_nil)))) (pss_cons (ps_set (i := 3) sc_law.nd rfl (Or.inl rfl) (pe_cl c__law_lowest hr (by decide) tk rfl (pa_cons (pe_ix ix_seq (pe_var (i := 3) rfl (Or.inl rfl) nd_b.1 nd_b.2) pe_int (fun _ _ => rfl)) (pa_cons (pe_ix ix_seq (pe_var (i := 3) rfl (Or.inl rfl) nd_b.1 nd_b.2) pe_int (fun _ _ => rfl)) pa_nil)))) (pss_cons (ps_set (i := 4) sc_law.nd rfl (Or.inl rfl) (pe_cl c__law_lowest hr (by decide) tk rfl (pa_cons (pe_ix ix_seq (pe_var (i := 4) rfl (Or.inl rfl) nd_c.1 nd_c.2) pe_int (fun _ _ => rfl)) (pa_cons (pe_ix ix_seq (pe_var (i := 4) rfl (Or.inl rfl) nd_c.1 nd_c.2) pe_int (fun _ _ => rfl)) pa_nil)))) (pss_cons (ps_set (i := 12) sc_law.nd rfl (Or.inl rfl) (pe_mak k_Ratio hr (by decide) tk rfl (pa_cons (pe_ix ix_seq (pe_var (i := 6) rfl (Or.inl rfl) nd_first.1 nd_first.2) pe_int (fun _ _ => rfl)) (pa_cons (pe_ix ix_seq (pe_var (i := 6) rfl (Or.inl rfl) nd_first.1 nd_first.2) pe_int (fun _ _ => rfl)) pa_nil)))) (pss_cons (ps_set (i := 13) sc_law.nd rfl (Or.inl rfl) (pe_mak k_Ratio hr (by decide) tk rfl (pa_cons (pe_ix ix_seq (pe_var (i := 7) rfl (Or.inl rfl) nd_second.1 nd_second.2) pe_int (fun _ _ => rfl)) (pa_cons (pe_ix ix_seq (pe_var (i := 7) rfl (Or.inl rfl) nd_second.1 nd_second.2) pe_int (fun _ _ => rfl)) pa_nil)))) (pss_cons (ps_set (i := 14) sc_law.nd rfl (Or.inl rfl) (pe_mak k_Ratio hr (by decide) tk rfl (pa_cons (pe_ix ix_seq (pe_var (i := 8) rfl (Or.inl rfl) nd_third.1 nd_third.2) pe_int (fun _ _ => rfl)) (pa_cons (pe_ix ix_seq (pe_var (i := 8) rfl (Or.inl rfl) nd_third.1 nd_third.2) pe_int (fun _ _ => rfl)) pa_nil)))) (pss_cons (ps_if (pt_not (pt_tr (pe_cl c__law_is hr (by decide) tk rfl (pa_cons (pe_mak k1_Ratio hr (by decide) tk rfl (pa_cons (pe_ix ix_seq (pe_var (i := 6) rfl (Or.inl rfl) nd_first.1 nd_first.2) pe_int (fun _ _ => rfl)) pa_nil)) (pa_cons (pe_tup (pa_cons (pe_ix ix_seq (pe_var (i := 6) rfl (Or.inl rfl) nd_first.1 nd_first.2) pe_int (fun _ _ => rfl)) (pa_cons pe_int pa_nil))) pa_nil))))) (pss_one (ps_ret pe_bl)) pss_nil) (pss_cons (ps_if (PW.pt (pw_or (pt_not (pt_tr (pe_cl c__law_alone hr (by decide) tk rfl (pa_cons (pe_var (i := 12) rfl (Or.inl rfl) nd_x.1 nd_x.2) (pa_cons (pe_var (i := 2) rfl (Or.inl rfl) nd_a.1 nd_a.2) pa_nil))))) (pw_or (pt_not (pt_tr (pe_cl c__law_alone hr (by decide) tk rfl (pa_cons (pe_var (i := 13) rfl (Or.inl rfl) nd_y.1 nd_y.2) (pa_cons (pe_var (i := 3) rfl (Or.inl rfl) nd_b.1 nd_b.2) pa_nil))))) (pw_or1 (pt_not (pt_tr (pe_cl c__law_alone hr (by decide) tk rfl (pa_cons (pe_var (i := 14) rfl (Or.inl rfl) nd_z.1 nd_z.2) (pa_cons (pe_var (i := 4) rfl (Or.inl rfl) nd_c.1 nd_c.2) pa_nil))))))))) (pss_one (ps_ret pe_bl)) pss_nil) (pss_cons (ps_if (PW.pt (pw_or (pt_not (pt_tr (pe_cl c__law_four hr (by decide) tk rfl (pa_cons (pe_var (i := 12) rfl (Or.inl rfl) nd_x.1 nd_x.2) (pa_cons (pe_var (i := 13) rfl (Or.inl rfl) nd_y.1 nd_y.2) (pa_cons (pe_var (i := 2) rfl (Or.inl rfl) nd_a.1 nd_a.2) (pa_cons (pe_var (i := 3) rfl (Or.inl rfl) nd_b.1 nd_b.2) pa_nil))))))) (pw_or1 (pt_not (pt_tr (pe_cl c__law_four hr (by decide) tk rfl (pa_cons (pe_var (i := 13) rfl (Or.inl rfl) nd_y.1 nd_y.2) (pa_cons (pe_var (i := 12) rfl (Or.inl rfl) nd_x.1 nd_x.2) (pa_cons (pe_var (i := 3) rfl (Or.inl rfl) nd_b.1 nd_b.2) (pa_cons (pe_var (i := 2) rfl (Or.inl rfl) nd_a.1 nd_a.2) pa_nil)))))))))) (pss_one (ps_ret pe_bl)) pss_nil) (pss_cons (ps_if (pt_not (pt_tr (pe_cl c__law_great_powers hr (by decide) tk rfl (pa_cons (pe_var (i := 14) rfl (Or.inl rfl) nd_z.1 nd_z.2) (pa_cons (pe_var (i := 4) rfl (Or.inl rfl) nd_c.1 nd_c.2) (pa_cons (pe_var (i := 5) rfl (Or.inl rfl) nd_many.1 nd_many.2) pa_nil)))))) (pss_one (ps_ret pe_bl)) pss_nil) (pss_cons (ps_if (PW.pt (pw_or (pt_not (pt_tr (pe_cl c__law_drawn_power hr (by decide) tk rfl (pa_cons (pe_var (i := 12) rfl (Or.inl rfl) nd_x.1 nd_x.2) (pa_cons (pe_var (i := 2) rfl (Or.inl rfl) nd_a.1 nd_a.2) (pa_cons (pe_var (i := 5) rfl (Or.inl rfl) nd_many.1 nd_many.2) pa_nil)))))) (pw_or1 (pt_not (pt_tr (pe_cl c__law_drawn_power hr (by decide) tk rfl (pa_cons (pe_var (i := 13) rfl (Or.inl rfl) nd_y.1 nd_y.2) (pa_cons (pe_var (i := 3) rfl (Or.inl rfl) nd_b.1 nd_b.2) (pa_cons (pe_var (i := 5) rfl (Or.inl rfl) nd_many.1 nd_many.2) pa_nil))))))))) (pss_one (ps_ret pe_bl)) pss_nil) (pss_cons (ps_if (PW.pt (pw_or (pt_not (pt_tr (pe_cl c__law_no_bottom hr (by decide) tk rfl (pa_cons (pe_ix ix_seq (pe_var (i := 6) rfl (Or.inl rfl) nd_first.1 nd_first.2) pe_int (fun _ _ => rfl)) pa_nil)))) (pw_or1 (pt_not (pt_tr (pe_cl c__law_no_bottom hr (by decide) tk rfl (pa_cons pe_int pa_nil))))))) (pss_one (ps_ret pe_bl)) pss_nil) (pss_cons (ps_set (i := 15) sc_law.nd rfl (Or.inl rfl) (pe_mak k_Ratio hr (by decide) tk rfl (pa_cons pe_int (pa_cons (pe_ix ix_seq (pe_var (i := 7) rfl (Or.inl rfl) nd_second.1 nd_second.2) pe_int (fun _ _ => rfl)) pa_nil)))) (pss_cons (ps_if (PW.pt (pw_or (pt_not (pt_tr (pe_cl c__law_is hr (by decide) tk rfl (pa_cons (pe_var (i := 15) rfl (Or.inl rfl) nd_zero.1 nd_zero.2) (pa_cons (pe_tup (pa_cons pe_int (pa_cons pe_int pa_nil))) pa_nil))))) (pw_or1 (pt_not (pt_tr (pe_cl c__law_no_quotient hr (by decide) tk rfl (pa_cons (pe_var (i := 12) rfl (Or.inl rfl) nd_x.1 nd_x.2) (pa_cons (pe_var (i := 15) rfl (Or.inl rfl) nd_zero.1 nd_zero.2) pa_nil)))))))) (pss_one (ps_ret pe_bl)) pss_nil) (pss_cons (ps_if (pt_not (pt_tr (pe_cl c__law_no_quotient hr (by decide) tk rfl (pa_cons (pe_var (i := 15) rfl (Or.inl rfl) nd_zero.1 nd_zero.2) (pa_cons (pe_var (i := 15) rfl (Or.inl rfl) nd_zero.1 nd_zero.2) pa_nil))))) (pss_one (ps_ret pe_bl)) pss_nil) (pss_cons (ps_if (PW.pt (pw_or (pt_not (pt_tr (pe_cl c__law_no_exponent hr (by decide) tk rfl (pa_cons (pe_var (i := 12) rfl (Or.inl rfl) nd_x.1 nd_x.2) (pa_cons (pe_var (i := 9) rfl (Or.inl rfl) nd_low.1 nd_low.2) pa_nil))))) (pw_or1 (pt_not (pt_tr (pe_cl c__law_no_exponent hr (by decide) tk rfl (pa_cons (pe_var (i := 13) rfl (Or.inl rfl) nd_y.1 nd_y.2) (pa_cons (pe_var (i := 10) rfl (Or.inl rfl) nd_high.1 nd_high.2) pa_nil)))))))) (pss_one (ps_ret pe_bl)) pss_nil) (pss_cons (ps_if (PW.pt (pw_or (pt_not (pt_tr (pe_cl c__law_no_exponent hr (by decide) tk rfl (pa_cons (pe_var (i := 14) rfl (Or.inl rfl) nd_z.1 nd_z.2) (pa_cons (pe_una (us_neg hr tk) pe_int) pa_nil))))) (pw_or1 (pt_not (pt_tr (pe_cl c__law_no_exponent hr (by decide) tk rfl (pa_cons (pe_var (i := 14) rfl (Or.inl rfl) nd_z.1 nd_z.2) (pa_cons pe_int pa_nil)))))))) (pss_one (ps_ret pe_bl)) pss_nil) (pss_cons (ps_if (pt_not (pt_tr (pe_cl c__law_four hr (by decide) tk rfl (pa_cons (pe_var (i := 12) rfl (Or.inl rfl) nd_x.1 nd_x.2) (pa_cons (pe_var (i := 13) rfl (Or.inl rfl) nd_y.1 nd_y.2) (pa_cons (pe_var (i := 2) rfl (Or.inl rfl) nd_a.1 nd_a.2) (pa_cons (pe_var (i := 3) rfl (Or.inl rfl) nd_b.1 nd_b.2) pa_nil))))))) (pss_one (ps_ret pe_bl)) pss_nil) (pss_cons (ps_if (PW.pt (pw_and (pt_cm (os_eqF hr tk) (pe_var (i := 11) rfl (Or.inl rfl) nd_long.1 nd_long.2) pe_int (nomark _)) (pw_and1 (pt_not (pt_tr (pe_cl c__law_long hr (by decide) tk rfl (pa_cons (pe_var (i := 1) rfl (Or.inl rfl) nd_pot.1 nd_pot.2) (pa_cons (pe_var (i := 4) rfl (Or.inl rfl) nd_c.1 nd_c.2) pa_nil)))))))) (pss_one (ps_ret pe_bl)) pss_nil) (pss_one (ps_ret (pe_and (pe_cl c__law_is hr (by decide) tk rfl (pa_cons (pe_var (i := 12) rfl (Or.inl rfl) nd_x.1 nd_x.2) (pa_cons (pe_var (i := 2) rfl (Or.inl rfl) nd_a.1 nd_a.2) pa_nil))) (pe_and (pe_cl c__law_is hr (by decide) tk rfl (pa_cons (pe_var (i := 13) rfl (Or.inl rfl) nd_y.1 nd_y.2) (pa_cons (pe_var (i := 3) rfl (Or.inl rfl) nd_b.1 nd_b.2) pa_nil))) (pe_one (pe_cl c__law_is hr (by decide) tk rfl (pa_cons (pe_var (i := 14) rfl (Or.inl rfl) nd_z.1 nd_z.2) (pa_cons (pe_var (i := 4) rfl (Or.inl rfl) nd_c.1 nd_c.2) pa_nil)))))))))))))))))))))))))))))))))))))), ?_⟩)
  rintro ds m K E - ⟨d, ns, rfl, sd, hl, hb, rfl, k⟩
  show Ws _ _ _ [some d, none, none, none, none, none, none, none, none, none, none, none, none, none, none, none] _ _
  dsimp only [cx_G, cx_K]
  walk_at "gn_1"
  refine ⟨d, ns, rfl, sd, hl, fun p m1 hp hm => ?_⟩
  walk_at "gn_1"
  all_goals try first | decide | exact bd_lit (by decide)
  rename_i a0 a1 m2 fa hm2 b0 b1 m3 fb hm3 g m4 g0 g1 hm4 g' m5 g0' g1' hm5
  obtain ⟨e, at_, e1, e3⟩ := three g0' g1'
  refine w2_ixL ⟨at_, ?_⟩
  have c0 : -3 ≤ 3 - g := by omega
  have c3 : 3 - g ≤ 3 := by omega
  generalize 3 - g = t at *
  have an : a1 ≠ 0 := by have := fa.pos; omega
  have bn : b1 ≠ 0 := by have := fb.pos; omega
  have en : e ≠ 0 := by omega
  have qX : Qb 240 (dv a0 a1) := fa.qb.mono (by decide)
  have qY : Qb 240 (dv b0 b1) := fb.qb.mono (by decide)
  have qZ2 : Qb 2 (dv t e) := qb_of en (by unfold Bd; omega) (by unfold Bd; omega)
  have qZ : Qb 240 (dv t e) := qZ2.mono (by decide)
  have bt : Bd 2 t := by unfold Bd; omega
  have be : Bd 2 e := by unfold Bd; omega
  walk_at "gn_1"
  all_goals try first
    | decide
    | exact bd_lit (by decide)
    | with_reducible assumption
    | exact fa.bt.mono (by decide)
    | exact fa.bb.mono (by decide)
    | exact fb.bt.mono (by decide)
    | exact fb.bb.mono (by decide)
    | exact bt.mono (by decide)
    | exact be.mono (by decide)
    | exact dok_bd (Int.mul_ne_zero an (by with_reducible assumption)) (fa.bb.mul (by with_reducible assumption)) (by decide)
    | exact dok_bd (Int.mul_ne_zero bn (by with_reducible assumption)) (fb.bb.mul (by with_reducible assumption)) (by decide)
    | exact dok_bd (Int.mul_ne_zero en (by with_reducible assumption)) (be.mul (by with_reducible assumption)) (by decide)
  rename_i many m6 u0 u1 hm6 k1 m7 k1n k1b hm7 k2 m8 k2n k2b hm8 k3 m9 k3n k3b hm9 lo m10 lo0 lo1 hm10 hi m11 hi0 hi1 hm11 lg m12 lg0 lg1 hm12
  refine Ws.cut (fun r' m' => ∃ X Y Z f0 f1 g0 g1 o many lo hi lg, LawS X Y Z g1 many lo hi ∧ PotM p [] m' ∧ r' = [some d, some (.ref p), some (prq X), some (prq Y), some (prq Z), some (.int many), some (pr f0 f1), some (pr g0 g1), o, some (.int lo), some (.int hi), some (.int lg), some (rq C_Ratio X), some (rq C_Ratio Y), some (rq C_Ratio Z), none]) ?_ ?_
  · walk_at "go_1"
    · rfl
    · rfl
    · exact ⟨_, _, _, _, _, _, _, _, _, _, _, _, ⟨qX, qY, qZ, qZ2, Int.mul_ne_zero bn k2n, u0, by omega, by omega, by omega⟩, hm12, rfl⟩
  · clear hm12 hm11 hm10 hm9 hm8 hm7 hm6 k1b k2b k3b k1n k2n k3n qX qY qZ qZ2 an bn en fa fb bt be c0 c3 e1 e3 at_ hm2 hm3 hm4 hm5 u0 u1 lo0 lo1 hi0 hi1 lg0 lg1 g0' g1' g0 g1
    rintro r' m' ⟨X, Y, Z, f0, f1, g0, g1, o, many, lo, hi, lg, l, hm', rfl⟩
    obtain ⟨qX, qY, qZ, qZ2, gn, u0, u1, llo, lhi⟩ := l
    have zd : dv 0 g1 = 0 := Rat.zero_divInt _
    have sX : Sz X := qX.mono (by decide)
    have z0 : Sz (dv 0 g1) := by rw [zd]; exact (show Qb 2 (0 : Rat) from ⟨bd_lit (by decide), bd_lit (by decide)⟩).mono (by decide)
    walk_at "go_1"
    all_goals first
      | with_reducible assumption
      | exact dok_zero gn
      | (rw [zd]; rfl)
      | rfl
      | exact Qb.mono (by with_reducible assumption) (show 240 ≤ 15000 by decide)
      | omega
      | exact k _
      | skip
    all_goals trace_state
end
end K01
set_option Elab.async false
set_option linter.all false
set_option maxRecDepth 100000
set_option maxHeartbeats 4000000
namespace K01
open PySem PySem.Spec L2 DL
open PyProof.Rows hiding St
theorem okx_OutOfBounds {G : Gx} {C_OutOfBounds : Addr} (ox : OexC G.K C_OutOfBounds) (no1 : PySem.W.findIn G.K (.ref C_OutOfBounds) "value" = some none) {f : Addr} {fd : FuncData} (F : L2.Fun G.K "__init__" "OutOfBounds.__init__" s_OutOfBounds___init__ f fd) : FnOk G.P G.w G.K G.mg G.base CX0 1 f fd ["self", "value"] (spXI C_OutOfBounds ["value"]) := by
  refine F.ok sc_OutOfBounds___init__ (fun vs H Q E h => ?_) (fun cdv A outer s H vs Q E hr h => ?_)
  · obtain ⟨a, ys, rfl, hl, _⟩ := h
    rw [List.length_cons, hl]
    rfl
  · obtain ⟨a, ys, rfl, hl, ha, k⟩ := h
    match ys, hl with
    | [y1], _ =>
      refine ⟨_, pss_one (ps_ost (pv 0) (pv 1)), ?_⟩
      refine ⟨_, rfl, _, rfl, a, C_OutOfBounds, rfl, ox, no1, .inl ⟨ha, fun dx hdx hne => ?_⟩⟩
      exact k dx _ hdx hne (fun b hb1 hb2 => by rw [upd_ne hb1, upd_ne hb2]) upd_same (by rw [upd_ne hne]; exact upd_same)
theorem all_mk {l : PySem.W.OpenLaw} {w : World} {K : PySem.W.Frag} {h : Heap} {mg : Str → Option Value} {fa : Addr} (X : K.In h) (Gn : h.Ns mainGlobals mg) (hfa : mg "law" = some (.ref fa))
    {C_Ratio : Addr} {C_ZeroBottom : Addr} {C_OutOfBounds N_e_OutOfBounds : Addr} {nm_OutOfBounds q_OutOfBounds : Str} {bs_OutOfBounds bm_OutOfBounds sn_OutOfBounds : _} {sub_OutOfBounds ab_OutOfBounds col_OutOfBounds dd_OutOfBounds m0_OutOfBounds m1_OutOfBounds m2_OutOfBounds m3_OutOfBounds m5_OutOfBounds : _} {C_CarryError : Addr} {f_Ratio___init__ : Addr} {od_Ratio___init__ an_Ratio___init__ : Option Addr} {sl_Ratio___init__ : Array (Option Value)} {oc_Ratio___init__ kV_Ratio___init__ dc_Ratio___init__ pm_Ratio___init__ cd_Ratio___init__ ct_Ratio___init__ : Value} {T_Ratio___init__ : Addr} {tk_Ratio___init__ : Tok} {oT_Ratio___init__ : Option Addr} {nT_Ratio___init__ : Nat} {sT_Ratio___init__ : Array (Option Value)} {cT_Ratio___init__ : Value} {f_Ratio_compare : Addr} {od_Ratio_compare an_Ratio_compare : Option Addr} {sl_Ratio_compare : Array (Option Value)} {oc_Ratio_compare kV_Ratio_compare dc_Ratio_compare pm_Ratio_compare cd_Ratio_compare ct_Ratio_compare : Value} {f_Ratio_divided : Addr} {od_Ratio_divided an_Ratio_divided : Option Addr} {sl_Ratio_divided : Array (Option Value)} {oc_Ratio_divided kV_Ratio_divided dc_Ratio_divided pm_Ratio_divided cd_Ratio_divided ct_Ratio_divided : Value} {f_Ratio_rounded_down : Addr} {od_Ratio_rounded_down an_Ratio_rounded_down : Option Addr} {sl_Ratio_rounded_down : Array (Option Value)} {oc_Ratio_rounded_down kV_Ratio_rounded_down dc_Ratio_rounded_down pm_Ratio_rounded_down cd_Ratio_rounded_down ct_Ratio_rounded_down : Value} {f_Ratio_rounded_up : Addr} {od_Ratio_rounded_up an_Ratio_rounded_up : Option Addr} {sl_Ratio_rounded_up : Array (Option Value)} {oc_Ratio_rounded_up kV_Ratio_rounded_up dc_Ratio_rounded_up pm_Ratio_rounded_up cd_Ratio_rounded_up ct_Ratio_rounded_up : Value} {f_Ratio_raised : Addr} {od_Ratio_raised an_Ratio_raised : Option Addr} {sl_Ratio_raised : Array (Option Value)} {oc_Ratio_raised kV_Ratio_raised dc_Ratio_raised pm_Ratio_raised cd_Ratio_raised ct_Ratio_raised : Value} {f_Ratio_sign : Addr} {od_Ratio_sign an_Ratio_sign : Option Addr} {sl_Ratio_sign : Array (Option Value)} {oc_Ratio_sign kV_Ratio_sign dc_Ratio_sign pm_Ratio_sign cd_Ratio_sign ct_Ratio_sign : Value} {f_Ratio___add__ : Addr} {od_Ratio___add__ an_Ratio___add__ : Option Addr} {sl_Ratio___add__ : Array (Option Value)} {oc_Ratio___add__ kV_Ratio___add__ dc_Ratio___add__ pm_Ratio___add__ cd_Ratio___add__ ct_Ratio___add__ : Value} {f_Ratio___sub__ : Addr} {od_Ratio___sub__ an_Ratio___sub__ : Option Addr} {sl_Ratio___sub__ : Array (Option Value)} {oc_Ratio___sub__ kV_Ratio___sub__ dc_Ratio___sub__ pm_Ratio___sub__ cd_Ratio___sub__ ct_Ratio___sub__ : Value} {f_Ratio___mul__ : Addr} {od_Ratio___mul__ an_Ratio___mul__ : Option Addr} {sl_Ratio___mul__ : Array (Option Value)} {oc_Ratio___mul__ kV_Ratio___mul__ dc_Ratio___mul__ pm_Ratio___mul__ cd_Ratio___mul__ ct_Ratio___mul__ : Value} {f_Ratio___neg__ : Addr} {od_Ratio___neg__ an_Ratio___neg__ : Option Addr} {sl_Ratio___neg__ : Array (Option Value)} {oc_Ratio___neg__ kV_Ratio___neg__ dc_Ratio___neg__ pm_Ratio___neg__ cd_Ratio___neg__ ct_Ratio___neg__ : Value} {f_Ratio___abs__ : Addr} {od_Ratio___abs__ an_Ratio___abs__ : Option Addr} {sl_Ratio___abs__ : Array (Option Value)} {oc_Ratio___abs__ kV_Ratio___abs__ dc_Ratio___abs__ pm_Ratio___abs__ cd_Ratio___abs__ ct_Ratio___abs__ : Value} {f_Ratio___pow__ : Addr} {od_Ratio___pow__ an_Ratio___pow__ : Option Addr} {sl_Ratio___pow__ : Array (Option Value)} {oc_Ratio___pow__ kV_Ratio___pow__ dc_Ratio___pow__ pm_Ratio___pow__ cd_Ratio___pow__ ct_Ratio___pow__ : Value} {f__simplest_above_zero : Addr} {od__simplest_above_zero an__simplest_above_zero : Option Addr} {sl__simplest_above_zero : Array (Option Value)} {oc__simplest_above_zero kV__simplest_above_zero dc__simplest_above_zero pm__simplest_above_zero cd__simplest_above_zero ct__simplest_above_zero : Value} {f_simplest : Addr} {od_simplest an_simplest : Option Addr} {sl_simplest : Array (Option Value)} {oc_simplest kV_simplest dc_simplest pm_simplest cd_simplest ct_simplest : Value} {f__law_start : Addr} {od__law_start an__law_start : Option Addr} {sl__law_start : Array (Option Value)} {oc__law_start kV__law_start dc__law_start pm__law_start cd__law_start ct__law_start : Value} {f__law_digit : Addr} {od__law_digit an__law_digit : Option Addr} {sl__law_digit : Array (Option Value)} {oc__law_digit kV__law_digit dc__law_digit pm__law_digit cd__law_digit ct__law_digit : Value} {f__law_fraction : Addr} {od__law_fraction an__law_fraction : Option Addr} {sl__law_fraction : Array (Option Value)} {oc__law_fraction kV__law_fraction dc__law_fraction pm__law_fraction cd__law_fraction ct__law_fraction : Value} {f__law_handed : Addr} {od__law_handed an__law_handed : Option Addr} {sl__law_handed : Array (Option Value)} {oc__law_handed kV__law_handed dc__law_handed pm__law_handed cd__law_handed ct__law_handed : Value} {f__law_lowest : Addr} {od__law_lowest an__law_lowest : Option Addr} {sl__law_lowest : Array (Option Value)} {oc__law_lowest kV__law_lowest dc__law_lowest pm__law_lowest cd__law_lowest ct__law_lowest : Value} {f__law_plus : Addr} {od__law_plus an__law_plus : Option Addr} {sl__law_plus : Array (Option Value)} {oc__law_plus kV__law_plus dc__law_plus pm__law_plus cd__law_plus ct__law_plus : Value} {f__law_times : Addr} {od__law_times an__law_times : Option Addr} {sl__law_times : Array (Option Value)} {oc__law_times kV__law_times dc__law_times pm__law_times cd__law_times ct__law_times : Value} {f__law_is : Addr} {od__law_is an__law_is : Option Addr} {sl__law_is : Array (Option Value)} {oc__law_is kV__law_is dc__law_is pm__law_is cd__law_is ct__law_is : Value} {f__law_no_bottom : Addr} {od__law_no_bottom an__law_no_bottom : Option Addr} {sl__law_no_bottom : Array (Option Value)} {oc__law_no_bottom kV__law_no_bottom dc__law_no_bottom pm__law_no_bottom cd__law_no_bottom ct__law_no_bottom : Value} {f__law_no_quotient : Addr} {od__law_no_quotient an__law_no_quotient : Option Addr} {sl__law_no_quotient : Array (Option Value)} {oc__law_no_quotient kV__law_no_quotient dc__law_no_quotient pm__law_no_quotient cd__law_no_quotient ct__law_no_quotient : Value} {f__law_no_exponent : Addr} {od__law_no_exponent an__law_no_exponent : Option Addr} {sl__law_no_exponent : Array (Option Value)} {oc__law_no_exponent kV__law_no_exponent dc__law_no_exponent pm__law_no_exponent cd__law_no_exponent ct__law_no_exponent : Value} {f__law_four : Addr} {od__law_four an__law_four : Option Addr} {sl__law_four : Array (Option Value)} {oc__law_four kV__law_four dc__law_four pm__law_four cd__law_four ct__law_four : Value} {f__law_small_powers : Addr} {od__law_small_powers an__law_small_powers : Option Addr} {sl__law_small_powers : Array (Option Value)} {oc__law_small_powers kV__law_small_powers dc__law_small_powers pm__law_small_powers cd__law_small_powers ct__law_small_powers : Value} {f__law_drawn_power : Addr} {od__law_drawn_power an__law_drawn_power : Option Addr} {sl__law_drawn_power : Array (Option Value)} {oc__law_drawn_power kV__law_drawn_power dc__law_drawn_power pm__law_drawn_power cd__law_drawn_power ct__law_drawn_power : Value} {f__law_all_powers : Addr} {od__law_all_powers an__law_all_powers : Option Addr} {sl__law_all_powers : Array (Option Value)} {oc__law_all_powers kV__law_all_powers dc__law_all_powers pm__law_all_powers cd__law_all_powers ct__law_all_powers : Value} {f__law_great_powers : Addr} {od__law_great_powers an__law_great_powers : Option Addr} {sl__law_great_powers : Array (Option Value)} {oc__law_great_powers kV__law_great_powers dc__law_great_powers pm__law_great_powers cd__law_great_powers ct__law_great_powers : Value} {f__law_alone : Addr} {od__law_alone an__law_alone : Option Addr} {sl__law_alone : Array (Option Value)} {oc__law_alone kV__law_alone dc__law_alone pm__law_alone cd__law_alone ct__law_alone : Value} {f__law_long_four : Addr} {od__law_long_four an__law_long_four : Option Addr} {sl__law_long_four : Array (Option Value)} {oc__law_long_four kV__law_long_four dc__law_long_four pm__law_long_four cd__law_long_four ct__law_long_four : Value} {f__law_long_order : Addr} {od__law_long_order an__law_long_order : Option Addr} {sl__law_long_order : Array (Option Value)} {oc__law_long_order kV__law_long_order dc__law_long_order pm__law_long_order cd__law_long_order ct__law_long_order : Value} {f__law_long : Addr} {od__law_long an__law_long : Option Addr} {sl__law_long : Array (Option Value)} {oc__law_long kV__law_long dc__law_long pm__law_long cd__law_long ct__law_long : Value} {f_law : Addr} {od_law an_law : Option Addr} {sl_law : Array (Option Value)} {oc_law kV_law dc_law pm_law cd_law ct_law : Value} {f_OutOfBounds___init__ : Addr} {od_OutOfBounds___init__ an_OutOfBounds___init__ : Option Addr} {sl_OutOfBounds___init__ : Array (Option Value)} {oc_OutOfBounds___init__ kV_OutOfBounds___init__ dc_OutOfBounds___init__ pm_OutOfBounds___init__ cd_OutOfBounds___init__ ct_OutOfBounds___init__ : Value} {tk_MOST_EXPONENT : Tok}
    (a_Ratio : PySem.W.nsIn K mainGlobals "Ratio" = some (some (.ref C_Ratio)))
    (pg_Ratio : PySem.W.plainGet K C_Ratio Str.empty = true)
    (hd_Ratio : PySem.W.hasDictIn K C_Ratio = true)
    (po_Ratio : PySem.W.plainOver K C_Ratio = true)
    (sa_Ratio : PySem.W.findIn K (.ref C_Ratio) "__setattr__" = some (some (.builtin "object.__setattr__")))
    (mk_Ratio : PySem.W.makesIn K C_Ratio = true)
    (sf_Ratio : PySem.W.selfFirst K C_Ratio = true)
    (kc_Ratio : PySem.W.keepIn K (.ref C_Ratio) = true)
    (ha_Ratio : PySem.W.findIn K (.ref C_Ratio) "__class__" = some (some (.builtin "object.__class__")))
    (mo_Ratio : PySem.W.mroIn K C_Ratio (.type "object") = some true)
    (is_Ratio : PySem.W.isClsIn K C_Ratio = true)
    (su_Ratio : PySem.W.subIn K (.ref C_Ratio) (.ref C_Ratio) = some true)
    (ty_Ratio : PySem.W.typeIn K (.ref C_Ratio) = some (.type "type"))
    (no_top_Ratio : PySem.W.findIn K (.ref C_Ratio) "top" = some none)
    (no_bottom_Ratio : PySem.W.findIn K (.ref C_Ratio) "bottom" = some none)
    (a_ZeroBottom : PySem.W.nsIn K mainGlobals "ZeroBottom" = some (some (.ref C_ZeroBottom)))
    (xi_ZeroBottom : PySem.W.excIn K C_ZeroBottom [.type "ValueError", .type "Exception", .type "BaseException", .type "object"] "ValueError.__new__" = true)
    (ex_ZeroBottom : PySem.W.subIn K (.ref C_ZeroBottom) (.type "BaseException") = some true)
    (ty_ZeroBottom : PySem.W.typeIn K (.ref C_ZeroBottom) = some (.type "type"))
    (kc_ZeroBottom : PySem.W.keepIn K (.ref C_ZeroBottom) = true)
    (ga_ZeroBottom : PySem.W.findIn K (.ref C_ZeroBottom) "__getattribute__" = some (some (.builtin "BaseException.__getattribute__")))
    (gg_ZeroBottom : PySem.W.findIn K (.ref C_ZeroBottom) "__getattr__" = some none)
    (hd_ZeroBottom : PySem.W.hasDictIn K C_ZeroBottom = true)
    (ha_ZeroBottom : PySem.W.findIn K (.ref C_ZeroBottom) "__class__" = some (some (.builtin "object.__class__")))
    (mo_ZeroBottom : PySem.W.mroIn K C_ZeroBottom (.type "object") = some true)
    (is_ZeroBottom : PySem.W.isClsIn K C_ZeroBottom = true)
    (su_ZeroBottom : PySem.W.subIn K (.ref C_ZeroBottom) (.ref C_ZeroBottom) = some true)
    (a_OutOfBounds : PySem.W.nsIn K mainGlobals "OutOfBounds" = some (some (.ref C_OutOfBounds)))
    (l_OutOfBounds : K.lookup C_OutOfBounds = some (excClassObj nm_OutOfBounds q_OutOfBounds C_OutOfBounds N_e_OutOfBounds bs_OutOfBounds bm_OutOfBounds true sn_OutOfBounds sub_OutOfBounds ab_OutOfBounds col_OutOfBounds dd_OutOfBounds m0_OutOfBounds m1_OutOfBounds m2_OutOfBounds m3_OutOfBounds m5_OutOfBounds "ValueError.__new__"))
    (rf_OutOfBounds : PySem.HandSPX.refsVE bm_OutOfBounds = true)
    (sa_OutOfBounds : PySem.W.findIn K (.ref C_OutOfBounds) "__setattr__" = some (some (.builtin "object.__setattr__")))
    (ex_OutOfBounds : PySem.W.subIn K (.ref C_OutOfBounds) (.type "BaseException") = some true)
    (ty_OutOfBounds : PySem.W.typeIn K (.ref C_OutOfBounds) = some (.type "type"))
    (kc_OutOfBounds : PySem.W.keepIn K (.ref C_OutOfBounds) = true)
    (ga_OutOfBounds : PySem.W.findIn K (.ref C_OutOfBounds) "__getattribute__" = some (some (.builtin "BaseException.__getattribute__")))
    (gg_OutOfBounds : PySem.W.findIn K (.ref C_OutOfBounds) "__getattr__" = some none)
    (hd_OutOfBounds : PySem.W.hasDictIn K C_OutOfBounds = true)
    (ha_OutOfBounds : PySem.W.findIn K (.ref C_OutOfBounds) "__class__" = some (some (.builtin "object.__class__")))
    (mo_OutOfBounds : PySem.W.mroIn K C_OutOfBounds (.type "object") = some true)
    (is_OutOfBounds : PySem.W.isClsIn K C_OutOfBounds = true)
    (su_OutOfBounds : PySem.W.subIn K (.ref C_OutOfBounds) (.ref C_OutOfBounds) = some true)
    (no_value_OutOfBounds : PySem.W.findIn K (.ref C_OutOfBounds) "value" = some none)
    (a_CarryError : PySem.W.nsIn K mainGlobals "CarryError" = some (some (.ref C_CarryError)))
    (ex_CarryError : PySem.W.subIn K (.ref C_CarryError) (.type "BaseException") = some true)
    (ty_CarryError : PySem.W.typeIn K (.ref C_CarryError) = some (.type "type"))
    (hd_CarryError : PySem.W.hasDictIn K C_CarryError = true)
    (is_CarryError : PySem.W.isClsIn K C_CarryError = true)
    (su_ZeroBottom_OutOfBounds : PySem.W.subIn K (.ref C_ZeroBottom) (.ref C_OutOfBounds) = some false)
    (su_OutOfBounds_ZeroBottom : PySem.W.subIn K (.ref C_OutOfBounds) (.ref C_ZeroBottom) = some false)
    (su_ZeroBottom_CarryError : PySem.W.subIn K (.ref C_ZeroBottom) (.ref C_CarryError) = some true)
    (su_OutOfBounds_CarryError : PySem.W.subIn K (.ref C_OutOfBounds) (.ref C_CarryError) = some true)
    (sT_ZeroBottom_ValueError : PySem.W.subIn K (.ref C_ZeroBottom) (.type "ValueError") = some true)
    (sT_OutOfBounds_ValueError : PySem.W.subIn K (.ref C_OutOfBounds) (.type "ValueError") = some true)
    (gs : PySem.W.specialIn K (.builtin "object.__class__") "__get__" = some (some (.builtin "getset_descriptor.__get__")))
    (gt : PySem.W.takesIn K (.builtin "object.__class__") = some true)
    (a_Ratio___init__ : PySem.W.findIn K (.ref C_Ratio) "__init__" = some (some (.ref f_Ratio___init__)))
    (i_Ratio___init__ : PySem.W.isFn K (.ref f_Ratio___init__) = true)
    (l_Ratio___init__ : K.lookup f_Ratio___init__ = some ⟨oc_Ratio___init__, od_Ratio___init__, .func (PySem.W.fnOf "__init__" "Ratio.__init__" (defArgs s_Ratio___init__) (defBody s_Ratio___init__) (defScope s_Ratio___init__) (.ref T_Ratio___init__) kV_Ratio___init__ dc_Ratio___init__ pm_Ratio___init__ an_Ratio___init__ cd_Ratio___init__ ct_Ratio___init__), sl_Ratio___init__⟩)
    (lT_Ratio___init__ : K.lookup T_Ratio___init__ = some ⟨cT_Ratio___init__, oT_Ratio___init__, .seq [Value.int 1 tk_Ratio___init__].toArray nT_Ratio___init__, sT_Ratio___init__⟩)
    (c_Ratio___init__ : PySem.W.codeIn K cd_Ratio___init__ "Ratio.__init__" = true)
    (k_Ratio___init__ : PySem.W.keepIn K (.ref f_Ratio___init__) = true)
    (a_Ratio_compare : PySem.W.findIn K (.ref C_Ratio) "compare" = some (some (.ref f_Ratio_compare)))
    (i_Ratio_compare : PySem.W.isFn K (.ref f_Ratio_compare) = true)
    (l_Ratio_compare : K.lookup f_Ratio_compare = some ⟨oc_Ratio_compare, od_Ratio_compare, .func (PySem.W.fnOf "compare" "Ratio.compare" (defArgs s_Ratio_compare) (defBody s_Ratio_compare) (defScope s_Ratio_compare) .none kV_Ratio_compare dc_Ratio_compare pm_Ratio_compare an_Ratio_compare cd_Ratio_compare ct_Ratio_compare), sl_Ratio_compare⟩)
    (c_Ratio_compare : PySem.W.codeIn K cd_Ratio_compare "Ratio.compare" = true)
    (k_Ratio_compare : PySem.W.keepIn K (.ref f_Ratio_compare) = true)
    (a_Ratio_divided : PySem.W.findIn K (.ref C_Ratio) "divided" = some (some (.ref f_Ratio_divided)))
    (i_Ratio_divided : PySem.W.isFn K (.ref f_Ratio_divided) = true)
    (l_Ratio_divided : K.lookup f_Ratio_divided = some ⟨oc_Ratio_divided, od_Ratio_divided, .func (PySem.W.fnOf "divided" "Ratio.divided" (defArgs s_Ratio_divided) (defBody s_Ratio_divided) (defScope s_Ratio_divided) .none kV_Ratio_divided dc_Ratio_divided pm_Ratio_divided an_Ratio_divided cd_Ratio_divided ct_Ratio_divided), sl_Ratio_divided⟩)
    (c_Ratio_divided : PySem.W.codeIn K cd_Ratio_divided "Ratio.divided" = true)
    (k_Ratio_divided : PySem.W.keepIn K (.ref f_Ratio_divided) = true)
    (a_Ratio_rounded_down : PySem.W.findIn K (.ref C_Ratio) "rounded_down" = some (some (.ref f_Ratio_rounded_down)))
    (i_Ratio_rounded_down : PySem.W.isFn K (.ref f_Ratio_rounded_down) = true)
    (l_Ratio_rounded_down : K.lookup f_Ratio_rounded_down = some ⟨oc_Ratio_rounded_down, od_Ratio_rounded_down, .func (PySem.W.fnOf "rounded_down" "Ratio.rounded_down" (defArgs s_Ratio_rounded_down) (defBody s_Ratio_rounded_down) (defScope s_Ratio_rounded_down) .none kV_Ratio_rounded_down dc_Ratio_rounded_down pm_Ratio_rounded_down an_Ratio_rounded_down cd_Ratio_rounded_down ct_Ratio_rounded_down), sl_Ratio_rounded_down⟩)
    (c_Ratio_rounded_down : PySem.W.codeIn K cd_Ratio_rounded_down "Ratio.rounded_down" = true)
    (k_Ratio_rounded_down : PySem.W.keepIn K (.ref f_Ratio_rounded_down) = true)
    (a_Ratio_rounded_up : PySem.W.findIn K (.ref C_Ratio) "rounded_up" = some (some (.ref f_Ratio_rounded_up)))
    (i_Ratio_rounded_up : PySem.W.isFn K (.ref f_Ratio_rounded_up) = true)
    (l_Ratio_rounded_up : K.lookup f_Ratio_rounded_up = some ⟨oc_Ratio_rounded_up, od_Ratio_rounded_up, .func (PySem.W.fnOf "rounded_up" "Ratio.rounded_up" (defArgs s_Ratio_rounded_up) (defBody s_Ratio_rounded_up) (defScope s_Ratio_rounded_up) .none kV_Ratio_rounded_up dc_Ratio_rounded_up pm_Ratio_rounded_up an_Ratio_rounded_up cd_Ratio_rounded_up ct_Ratio_rounded_up), sl_Ratio_rounded_up⟩)
    (c_Ratio_rounded_up : PySem.W.codeIn K cd_Ratio_rounded_up "Ratio.rounded_up" = true)
    (k_Ratio_rounded_up : PySem.W.keepIn K (.ref f_Ratio_rounded_up) = true)
    (a_Ratio_raised : PySem.W.findIn K (.ref C_Ratio) "raised" = some (some (.ref f_Ratio_raised)))
    (i_Ratio_raised : PySem.W.isFn K (.ref f_Ratio_raised) = true)
    (l_Ratio_raised : K.lookup f_Ratio_raised = some ⟨oc_Ratio_raised, od_Ratio_raised, .func (PySem.W.fnOf "raised" "Ratio.raised" (defArgs s_Ratio_raised) (defBody s_Ratio_raised) (defScope s_Ratio_raised) .none kV_Ratio_raised dc_Ratio_raised pm_Ratio_raised an_Ratio_raised cd_Ratio_raised ct_Ratio_raised), sl_Ratio_raised⟩)
    (c_Ratio_raised : PySem.W.codeIn K cd_Ratio_raised "Ratio.raised" = true)
    (k_Ratio_raised : PySem.W.keepIn K (.ref f_Ratio_raised) = true)
    (a_Ratio_sign : PySem.W.findIn K (.ref C_Ratio) "sign" = some (some (.ref f_Ratio_sign)))
    (i_Ratio_sign : PySem.W.isFn K (.ref f_Ratio_sign) = true)
    (l_Ratio_sign : K.lookup f_Ratio_sign = some ⟨oc_Ratio_sign, od_Ratio_sign, .func (PySem.W.fnOf "sign" "Ratio.sign" (defArgs s_Ratio_sign) (defBody s_Ratio_sign) (defScope s_Ratio_sign) .none kV_Ratio_sign dc_Ratio_sign pm_Ratio_sign an_Ratio_sign cd_Ratio_sign ct_Ratio_sign), sl_Ratio_sign⟩)
    (c_Ratio_sign : PySem.W.codeIn K cd_Ratio_sign "Ratio.sign" = true)
    (k_Ratio_sign : PySem.W.keepIn K (.ref f_Ratio_sign) = true)
    (a_Ratio___add__ : PySem.W.findIn K (.ref C_Ratio) "__add__" = some (some (.ref f_Ratio___add__)))
    (i_Ratio___add__ : PySem.W.isFn K (.ref f_Ratio___add__) = true)
    (l_Ratio___add__ : K.lookup f_Ratio___add__ = some ⟨oc_Ratio___add__, od_Ratio___add__, .func (PySem.W.fnOf "__add__" "Ratio.__add__" (defArgs s_Ratio___add__) (defBody s_Ratio___add__) (defScope s_Ratio___add__) .none kV_Ratio___add__ dc_Ratio___add__ pm_Ratio___add__ an_Ratio___add__ cd_Ratio___add__ ct_Ratio___add__), sl_Ratio___add__⟩)
    (c_Ratio___add__ : PySem.W.codeIn K cd_Ratio___add__ "Ratio.__add__" = true)
    (k_Ratio___add__ : PySem.W.keepIn K (.ref f_Ratio___add__) = true)
    (a_Ratio___sub__ : PySem.W.findIn K (.ref C_Ratio) "__sub__" = some (some (.ref f_Ratio___sub__)))
    (i_Ratio___sub__ : PySem.W.isFn K (.ref f_Ratio___sub__) = true)
    (l_Ratio___sub__ : K.lookup f_Ratio___sub__ = some ⟨oc_Ratio___sub__, od_Ratio___sub__, .func (PySem.W.fnOf "__sub__" "Ratio.__sub__" (defArgs s_Ratio___sub__) (defBody s_Ratio___sub__) (defScope s_Ratio___sub__) .none kV_Ratio___sub__ dc_Ratio___sub__ pm_Ratio___sub__ an_Ratio___sub__ cd_Ratio___sub__ ct_Ratio___sub__), sl_Ratio___sub__⟩)
    (c_Ratio___sub__ : PySem.W.codeIn K cd_Ratio___sub__ "Ratio.__sub__" = true)
    (k_Ratio___sub__ : PySem.W.keepIn K (.ref f_Ratio___sub__) = true)
    (a_Ratio___mul__ : PySem.W.findIn K (.ref C_Ratio) "__mul__" = some (some (.ref f_Ratio___mul__)))
    (i_Ratio___mul__ : PySem.W.isFn K (.ref f_Ratio___mul__) = true)
    (l_Ratio___mul__ : K.lookup f_Ratio___mul__ = some ⟨oc_Ratio___mul__, od_Ratio___mul__, .func (PySem.W.fnOf "__mul__" "Ratio.__mul__" (defArgs s_Ratio___mul__) (defBody s_Ratio___mul__) (defScope s_Ratio___mul__) .none kV_Ratio___mul__ dc_Ratio___mul__ pm_Ratio___mul__ an_Ratio___mul__ cd_Ratio___mul__ ct_Ratio___mul__), sl_Ratio___mul__⟩)
    (c_Ratio___mul__ : PySem.W.codeIn K cd_Ratio___mul__ "Ratio.__mul__" = true)
    (k_Ratio___mul__ : PySem.W.keepIn K (.ref f_Ratio___mul__) = true)
    (a_Ratio___neg__ : PySem.W.findIn K (.ref C_Ratio) "__neg__" = some (some (.ref f_Ratio___neg__)))
    (i_Ratio___neg__ : PySem.W.isFn K (.ref f_Ratio___neg__) = true)
    (l_Ratio___neg__ : K.lookup f_Ratio___neg__ = some ⟨oc_Ratio___neg__, od_Ratio___neg__, .func (PySem.W.fnOf "__neg__" "Ratio.__neg__" (defArgs s_Ratio___neg__) (defBody s_Ratio___neg__) (defScope s_Ratio___neg__) .none kV_Ratio___neg__ dc_Ratio___neg__ pm_Ratio___neg__ an_Ratio___neg__ cd_Ratio___neg__ ct_Ratio___neg__), sl_Ratio___neg__⟩)
    (c_Ratio___neg__ : PySem.W.codeIn K cd_Ratio___neg__ "Ratio.__neg__" = true)
    (k_Ratio___neg__ : PySem.W.keepIn K (.ref f_Ratio___neg__) = true)
    (a_Ratio___abs__ : PySem.W.findIn K (.ref C_Ratio) "__abs__" = some (some (.ref f_Ratio___abs__)))
    (i_Ratio___abs__ : PySem.W.isFn K (.ref f_Ratio___abs__) = true)
    (l_Ratio___abs__ : K.lookup f_Ratio___abs__ = some ⟨oc_Ratio___abs__, od_Ratio___abs__, .func (PySem.W.fnOf "__abs__" "Ratio.__abs__" (defArgs s_Ratio___abs__) (defBody s_Ratio___abs__) (defScope s_Ratio___abs__) .none kV_Ratio___abs__ dc_Ratio___abs__ pm_Ratio___abs__ an_Ratio___abs__ cd_Ratio___abs__ ct_Ratio___abs__), sl_Ratio___abs__⟩)
    (c_Ratio___abs__ : PySem.W.codeIn K cd_Ratio___abs__ "Ratio.__abs__" = true)
    (k_Ratio___abs__ : PySem.W.keepIn K (.ref f_Ratio___abs__) = true)
    (a_Ratio___pow__ : PySem.W.findIn K (.ref C_Ratio) "__pow__" = some (some (.ref f_Ratio___pow__)))
    (i_Ratio___pow__ : PySem.W.isFn K (.ref f_Ratio___pow__) = true)
    (l_Ratio___pow__ : K.lookup f_Ratio___pow__ = some ⟨oc_Ratio___pow__, od_Ratio___pow__, .func (PySem.W.fnOf "__pow__" "Ratio.__pow__" (defArgs s_Ratio___pow__) (defBody s_Ratio___pow__) (defScope s_Ratio___pow__) .none kV_Ratio___pow__ dc_Ratio___pow__ pm_Ratio___pow__ an_Ratio___pow__ cd_Ratio___pow__ ct_Ratio___pow__), sl_Ratio___pow__⟩)
    (c_Ratio___pow__ : PySem.W.codeIn K cd_Ratio___pow__ "Ratio.__pow__" = true)
    (k_Ratio___pow__ : PySem.W.keepIn K (.ref f_Ratio___pow__) = true)
    (a__simplest_above_zero : PySem.W.nsIn K mainGlobals "_simplest_above_zero" = some (some (.ref f__simplest_above_zero)))
    (l__simplest_above_zero : K.lookup f__simplest_above_zero = some ⟨oc__simplest_above_zero, od__simplest_above_zero, .func (PySem.W.fnOf "_simplest_above_zero" "_simplest_above_zero" (defArgs s__simplest_above_zero) (defBody s__simplest_above_zero) (defScope s__simplest_above_zero) .none kV__simplest_above_zero dc__simplest_above_zero pm__simplest_above_zero an__simplest_above_zero cd__simplest_above_zero ct__simplest_above_zero), sl__simplest_above_zero⟩)
    (c__simplest_above_zero : PySem.W.codeIn K cd__simplest_above_zero "_simplest_above_zero" = true)
    (k__simplest_above_zero : PySem.W.keepIn K (.ref f__simplest_above_zero) = true)
    (a_simplest : PySem.W.nsIn K mainGlobals "simplest" = some (some (.ref f_simplest)))
    (l_simplest : K.lookup f_simplest = some ⟨oc_simplest, od_simplest, .func (PySem.W.fnOf "simplest" "simplest" (defArgs s_simplest) (defBody s_simplest) (defScope s_simplest) .none kV_simplest dc_simplest pm_simplest an_simplest cd_simplest ct_simplest), sl_simplest⟩)
    (c_simplest : PySem.W.codeIn K cd_simplest "simplest" = true)
    (k_simplest : PySem.W.keepIn K (.ref f_simplest) = true)
    (a__law_start : PySem.W.nsIn K mainGlobals "_law_start" = some (some (.ref f__law_start)))
    (l__law_start : K.lookup f__law_start = some ⟨oc__law_start, od__law_start, .func (PySem.W.fnOf "_law_start" "_law_start" (defArgs s__law_start) (defBody s__law_start) (defScope s__law_start) .none kV__law_start dc__law_start pm__law_start an__law_start cd__law_start ct__law_start), sl__law_start⟩)
    (c__law_start : PySem.W.codeIn K cd__law_start "_law_start" = true)
    (k__law_start : PySem.W.keepIn K (.ref f__law_start) = true)
    (a__law_digit : PySem.W.nsIn K mainGlobals "_law_digit" = some (some (.ref f__law_digit)))
    (l__law_digit : K.lookup f__law_digit = some ⟨oc__law_digit, od__law_digit, .func (PySem.W.fnOf "_law_digit" "_law_digit" (defArgs s__law_digit) (defBody s__law_digit) (defScope s__law_digit) .none kV__law_digit dc__law_digit pm__law_digit an__law_digit cd__law_digit ct__law_digit), sl__law_digit⟩)
    (c__law_digit : PySem.W.codeIn K cd__law_digit "_law_digit" = true)
    (k__law_digit : PySem.W.keepIn K (.ref f__law_digit) = true)
    (a__law_fraction : PySem.W.nsIn K mainGlobals "_law_fraction" = some (some (.ref f__law_fraction)))
    (l__law_fraction : K.lookup f__law_fraction = some ⟨oc__law_fraction, od__law_fraction, .func (PySem.W.fnOf "_law_fraction" "_law_fraction" (defArgs s__law_fraction) (defBody s__law_fraction) (defScope s__law_fraction) .none kV__law_fraction dc__law_fraction pm__law_fraction an__law_fraction cd__law_fraction ct__law_fraction), sl__law_fraction⟩)
    (c__law_fraction : PySem.W.codeIn K cd__law_fraction "_law_fraction" = true)
    (k__law_fraction : PySem.W.keepIn K (.ref f__law_fraction) = true)
    (a__law_handed : PySem.W.nsIn K mainGlobals "_law_handed" = some (some (.ref f__law_handed)))
    (l__law_handed : K.lookup f__law_handed = some ⟨oc__law_handed, od__law_handed, .func (PySem.W.fnOf "_law_handed" "_law_handed" (defArgs s__law_handed) (defBody s__law_handed) (defScope s__law_handed) .none kV__law_handed dc__law_handed pm__law_handed an__law_handed cd__law_handed ct__law_handed), sl__law_handed⟩)
    (c__law_handed : PySem.W.codeIn K cd__law_handed "_law_handed" = true)
    (k__law_handed : PySem.W.keepIn K (.ref f__law_handed) = true)
    (a__law_lowest : PySem.W.nsIn K mainGlobals "_law_lowest" = some (some (.ref f__law_lowest)))
    (l__law_lowest : K.lookup f__law_lowest = some ⟨oc__law_lowest, od__law_lowest, .func (PySem.W.fnOf "_law_lowest" "_law_lowest" (defArgs s__law_lowest) (defBody s__law_lowest) (defScope s__law_lowest) .none kV__law_lowest dc__law_lowest pm__law_lowest an__law_lowest cd__law_lowest ct__law_lowest), sl__law_lowest⟩)
    (c__law_lowest : PySem.W.codeIn K cd__law_lowest "_law_lowest" = true)
    (k__law_lowest : PySem.W.keepIn K (.ref f__law_lowest) = true)
    (a__law_plus : PySem.W.nsIn K mainGlobals "_law_plus" = some (some (.ref f__law_plus)))
    (l__law_plus : K.lookup f__law_plus = some ⟨oc__law_plus, od__law_plus, .func (PySem.W.fnOf "_law_plus" "_law_plus" (defArgs s__law_plus) (defBody s__law_plus) (defScope s__law_plus) .none kV__law_plus dc__law_plus pm__law_plus an__law_plus cd__law_plus ct__law_plus), sl__law_plus⟩)
    (c__law_plus : PySem.W.codeIn K cd__law_plus "_law_plus" = true)
    (k__law_plus : PySem.W.keepIn K (.ref f__law_plus) = true)
    (a__law_times : PySem.W.nsIn K mainGlobals "_law_times" = some (some (.ref f__law_times)))
    (l__law_times : K.lookup f__law_times = some ⟨oc__law_times, od__law_times, .func (PySem.W.fnOf "_law_times" "_law_times" (defArgs s__law_times) (defBody s__law_times) (defScope s__law_times) .none kV__law_times dc__law_times pm__law_times an__law_times cd__law_times ct__law_times), sl__law_times⟩)
    (c__law_times : PySem.W.codeIn K cd__law_times "_law_times" = true)
    (k__law_times : PySem.W.keepIn K (.ref f__law_times) = true)
    (a__law_is : PySem.W.nsIn K mainGlobals "_law_is" = some (some (.ref f__law_is)))
    (l__law_is : K.lookup f__law_is = some ⟨oc__law_is, od__law_is, .func (PySem.W.fnOf "_law_is" "_law_is" (defArgs s__law_is) (defBody s__law_is) (defScope s__law_is) .none kV__law_is dc__law_is pm__law_is an__law_is cd__law_is ct__law_is), sl__law_is⟩)
    (c__law_is : PySem.W.codeIn K cd__law_is "_law_is" = true)
    (k__law_is : PySem.W.keepIn K (.ref f__law_is) = true)
    (a__law_no_bottom : PySem.W.nsIn K mainGlobals "_law_no_bottom" = some (some (.ref f__law_no_bottom)))
    (l__law_no_bottom : K.lookup f__law_no_bottom = some ⟨oc__law_no_bottom, od__law_no_bottom, .func (PySem.W.fnOf "_law_no_bottom" "_law_no_bottom" (defArgs s__law_no_bottom) (defBody s__law_no_bottom) (defScope s__law_no_bottom) .none kV__law_no_bottom dc__law_no_bottom pm__law_no_bottom an__law_no_bottom cd__law_no_bottom ct__law_no_bottom), sl__law_no_bottom⟩)
    (c__law_no_bottom : PySem.W.codeIn K cd__law_no_bottom "_law_no_bottom" = true)
    (k__law_no_bottom : PySem.W.keepIn K (.ref f__law_no_bottom) = true)
    (a__law_no_quotient : PySem.W.nsIn K mainGlobals "_law_no_quotient" = some (some (.ref f__law_no_quotient)))
    (l__law_no_quotient : K.lookup f__law_no_quotient = some ⟨oc__law_no_quotient, od__law_no_quotient, .func (PySem.W.fnOf "_law_no_quotient" "_law_no_quotient" (defArgs s__law_no_quotient) (defBody s__law_no_quotient) (defScope s__law_no_quotient) .none kV__law_no_quotient dc__law_no_quotient pm__law_no_quotient an__law_no_quotient cd__law_no_quotient ct__law_no_quotient), sl__law_no_quotient⟩)
    (c__law_no_quotient : PySem.W.codeIn K cd__law_no_quotient "_law_no_quotient" = true)
    (k__law_no_quotient : PySem.W.keepIn K (.ref f__law_no_quotient) = true)
    (a__law_no_exponent : PySem.W.nsIn K mainGlobals "_law_no_exponent" = some (some (.ref f__law_no_exponent)))
    (l__law_no_exponent : K.lookup f__law_no_exponent = some ⟨oc__law_no_exponent, od__law_no_exponent, .func (PySem.W.fnOf "_law_no_exponent" "_law_no_exponent" (defArgs s__law_no_exponent) (defBody s__law_no_exponent) (defScope s__law_no_exponent) .none kV__law_no_exponent dc__law_no_exponent pm__law_no_exponent an__law_no_exponent cd__law_no_exponent ct__law_no_exponent), sl__law_no_exponent⟩)
    (c__law_no_exponent : PySem.W.codeIn K cd__law_no_exponent "_law_no_exponent" = true)
    (k__law_no_exponent : PySem.W.keepIn K (.ref f__law_no_exponent) = true)
    (a__law_four : PySem.W.nsIn K mainGlobals "_law_four" = some (some (.ref f__law_four)))
    (l__law_four : K.lookup f__law_four = some ⟨oc__law_four, od__law_four, .func (PySem.W.fnOf "_law_four" "_law_four" (defArgs s__law_four) (defBody s__law_four) (defScope s__law_four) .none kV__law_four dc__law_four pm__law_four an__law_four cd__law_four ct__law_four), sl__law_four⟩)
    (c__law_four : PySem.W.codeIn K cd__law_four "_law_four" = true)
    (k__law_four : PySem.W.keepIn K (.ref f__law_four) = true)
    (a__law_small_powers : PySem.W.nsIn K mainGlobals "_law_small_powers" = some (some (.ref f__law_small_powers)))
    (l__law_small_powers : K.lookup f__law_small_powers = some ⟨oc__law_small_powers, od__law_small_powers, .func (PySem.W.fnOf "_law_small_powers" "_law_small_powers" (defArgs s__law_small_powers) (defBody s__law_small_powers) (defScope s__law_small_powers) .none kV__law_small_powers dc__law_small_powers pm__law_small_powers an__law_small_powers cd__law_small_powers ct__law_small_powers), sl__law_small_powers⟩)
    (c__law_small_powers : PySem.W.codeIn K cd__law_small_powers "_law_small_powers" = true)
    (k__law_small_powers : PySem.W.keepIn K (.ref f__law_small_powers) = true)
    (a__law_drawn_power : PySem.W.nsIn K mainGlobals "_law_drawn_power" = some (some (.ref f__law_drawn_power)))
    (l__law_drawn_power : K.lookup f__law_drawn_power = some ⟨oc__law_drawn_power, od__law_drawn_power, .func (PySem.W.fnOf "_law_drawn_power" "_law_drawn_power" (defArgs s__law_drawn_power) (defBody s__law_drawn_power) (defScope s__law_drawn_power) .none kV__law_drawn_power dc__law_drawn_power pm__law_drawn_power an__law_drawn_power cd__law_drawn_power ct__law_drawn_power), sl__law_drawn_power⟩)
    (c__law_drawn_power : PySem.W.codeIn K cd__law_drawn_power "_law_drawn_power" = true)
    (k__law_drawn_power : PySem.W.keepIn K (.ref f__law_drawn_power) = true)
    (a__law_all_powers : PySem.W.nsIn K mainGlobals "_law_all_powers" = some (some (.ref f__law_all_powers)))
    (l__law_all_powers : K.lookup f__law_all_powers = some ⟨oc__law_all_powers, od__law_all_powers, .func (PySem.W.fnOf "_law_all_powers" "_law_all_powers" (defArgs s__law_all_powers) (defBody s__law_all_powers) (defScope s__law_all_powers) .none kV__law_all_powers dc__law_all_powers pm__law_all_powers an__law_all_powers cd__law_all_powers ct__law_all_powers), sl__law_all_powers⟩)
    (c__law_all_powers : PySem.W.codeIn K cd__law_all_powers "_law_all_powers" = true)
    (k__law_all_powers : PySem.W.keepIn K (.ref f__law_all_powers) = true)
    (a__law_great_powers : PySem.W.nsIn K mainGlobals "_law_great_powers" = some (some (.ref f__law_great_powers)))
    (l__law_great_powers : K.lookup f__law_great_powers = some ⟨oc__law_great_powers, od__law_great_powers, .func (PySem.W.fnOf "_law_great_powers" "_law_great_powers" (defArgs s__law_great_powers) (defBody s__law_great_powers) (defScope s__law_great_powers) .none kV__law_great_powers dc__law_great_powers pm__law_great_powers an__law_great_powers cd__law_great_powers ct__law_great_powers), sl__law_great_powers⟩)
    (c__law_great_powers : PySem.W.codeIn K cd__law_great_powers "_law_great_powers" = true)
    (k__law_great_powers : PySem.W.keepIn K (.ref f__law_great_powers) = true)
    (a__law_alone : PySem.W.nsIn K mainGlobals "_law_alone" = some (some (.ref f__law_alone)))
    (l__law_alone : K.lookup f__law_alone = some ⟨oc__law_alone, od__law_alone, .func (PySem.W.fnOf "_law_alone" "_law_alone" (defArgs s__law_alone) (defBody s__law_alone) (defScope s__law_alone) .none kV__law_alone dc__law_alone pm__law_alone an__law_alone cd__law_alone ct__law_alone), sl__law_alone⟩)
    (c__law_alone : PySem.W.codeIn K cd__law_alone "_law_alone" = true)
    (k__law_alone : PySem.W.keepIn K (.ref f__law_alone) = true)
    (a__law_long_four : PySem.W.nsIn K mainGlobals "_law_long_four" = some (some (.ref f__law_long_four)))
    (l__law_long_four : K.lookup f__law_long_four = some ⟨oc__law_long_four, od__law_long_four, .func (PySem.W.fnOf "_law_long_four" "_law_long_four" (defArgs s__law_long_four) (defBody s__law_long_four) (defScope s__law_long_four) .none kV__law_long_four dc__law_long_four pm__law_long_four an__law_long_four cd__law_long_four ct__law_long_four), sl__law_long_four⟩)
    (c__law_long_four : PySem.W.codeIn K cd__law_long_four "_law_long_four" = true)
    (k__law_long_four : PySem.W.keepIn K (.ref f__law_long_four) = true)
    (a__law_long_order : PySem.W.nsIn K mainGlobals "_law_long_order" = some (some (.ref f__law_long_order)))
    (l__law_long_order : K.lookup f__law_long_order = some ⟨oc__law_long_order, od__law_long_order, .func (PySem.W.fnOf "_law_long_order" "_law_long_order" (defArgs s__law_long_order) (defBody s__law_long_order) (defScope s__law_long_order) .none kV__law_long_order dc__law_long_order pm__law_long_order an__law_long_order cd__law_long_order ct__law_long_order), sl__law_long_order⟩)
    (c__law_long_order : PySem.W.codeIn K cd__law_long_order "_law_long_order" = true)
    (k__law_long_order : PySem.W.keepIn K (.ref f__law_long_order) = true)
    (a__law_long : PySem.W.nsIn K mainGlobals "_law_long" = some (some (.ref f__law_long)))
    (l__law_long : K.lookup f__law_long = some ⟨oc__law_long, od__law_long, .func (PySem.W.fnOf "_law_long" "_law_long" (defArgs s__law_long) (defBody s__law_long) (defScope s__law_long) .none kV__law_long dc__law_long pm__law_long an__law_long cd__law_long ct__law_long), sl__law_long⟩)
    (c__law_long : PySem.W.codeIn K cd__law_long "_law_long" = true)
    (k__law_long : PySem.W.keepIn K (.ref f__law_long) = true)
    (a_law : PySem.W.nsIn K mainGlobals "law" = some (some (.ref f_law)))
    (l_law : K.lookup f_law = some ⟨oc_law, od_law, .func (PySem.W.fnOf "law" "law" (defArgs s_law) (defBody s_law) (defScope s_law) .none kV_law dc_law pm_law an_law cd_law ct_law), sl_law⟩)
    (c_law : PySem.W.codeIn K cd_law "law" = true)
    (k_law : PySem.W.keepIn K (.ref f_law) = true)
    (a_OutOfBounds___init__ : PySem.W.findIn K (.ref C_OutOfBounds) "__init__" = some (some (.ref f_OutOfBounds___init__)))
    (i_OutOfBounds___init__ : PySem.W.typeIn K (.ref f_OutOfBounds___init__) = some (.type "function"))
    (l_OutOfBounds___init__ : K.lookup f_OutOfBounds___init__ = some ⟨oc_OutOfBounds___init__, od_OutOfBounds___init__, .func (PySem.W.fnOf "__init__" "OutOfBounds.__init__" (defArgs s_OutOfBounds___init__) (defBody s_OutOfBounds___init__) (defScope s_OutOfBounds___init__) .none kV_OutOfBounds___init__ dc_OutOfBounds___init__ pm_OutOfBounds___init__ an_OutOfBounds___init__ cd_OutOfBounds___init__ ct_OutOfBounds___init__), sl_OutOfBounds___init__⟩)
    (c_OutOfBounds___init__ : PySem.W.codeIn K cd_OutOfBounds___init__ "OutOfBounds.__init__" = true)
    (k_OutOfBounds___init__ : PySem.W.keepIn K (.ref f_OutOfBounds___init__) = true)
    (rp_Ratio : PySem.W.findIn K (.ref C_Ratio) "__rpow__" = some none)
    (sI_Ratio : PySem.W.subIn K (.type "int") (.ref C_Ratio) = some false)
    (z_abs : PySem.W.nsIn K mainGlobals "abs" = some none)
    (z_len : PySem.W.nsIn K mainGlobals "len" = some none)
    (z_int : PySem.W.nsIn K mainGlobals "int" = some none)
    (z_bool : PySem.W.nsIn K mainGlobals "bool" = some none)
    (z_range : PySem.W.nsIn K mainGlobals "range" = some none)
    (z_isinstance : PySem.W.nsIn K mainGlobals "isinstance" = some none)
    (z_ValueError : PySem.W.nsIn K mainGlobals "ValueError" = some none)
    (v_gcd : PySem.W.nsIn K mainGlobals "gcd" = some (some (.builtin "math.gcd")))
    (v_MOST_EXPONENT : PySem.W.nsIn K mainGlobals "MOST_EXPONENT" = some (some (Value.int 64 tk_MOST_EXPONENT))) :
    ∃ fd : FuncData, (∀ (s : Shared) (v : Value), BindsTo s fd ⟨[v], []⟩ [("script", v)]) ∧ ∀ base : Heap, K.In base → base.Ns mainGlobals mg → FnOk l.prog w K mg base (L2N.CX l.prog w) 7 fa fd ["script"] (spD 1 (S_law K)) := by
  have e := hfa.symm.trans (PySem.W.mg_of X Gn a_law)
  cases e
  have cls_Ratio : Cls K C_Ratio := ⟨pg_Ratio, hd_Ratio, po_Ratio, sa_Ratio⟩
  have S0_Ratio : RatC K C_Ratio := ⟨⟨cls_Ratio, ha_Ratio, gs, gt, mo_Ratio⟩, no_top_Ratio, no_bottom_Ratio⟩
  have ox_OutOfBounds : OexC K C_OutOfBounds := ⟨⟨_, _, _, _, _, _, _, _, _, _, _, _, _, _, _, l_OutOfBounds, rf_OutOfBounds⟩, sa_OutOfBounds, ex_OutOfBounds, ty_OutOfBounds, kc_OutOfBounds⟩
  have F_Ratio___init__ : FunW K "__init__" "Ratio.__init__" s_Ratio___init__ [V.int 1] f_Ratio___init__ _ := ⟨⟨_, _, _, _, _, _, _, _, _, _, rfl, l_Ratio___init__, c_Ratio___init__, .inr ⟨by simp, _, _, _, _, rfl, lT_Ratio___init__, rfl, .cons ⟨_, rfl⟩ .nil⟩, .inl rfl⟩, k_Ratio___init__⟩
  obtain ⟨ds, hds, b_Ratio___init__⟩ := F_Ratio___init__.binds1 (ps := ["self", "top", "bottom"]) 3 1 (by simp) rfl fun T kV doc pm an cdv ct us its hl hl2 => match us, its, hl, hl2 with
    | [_, _, _], [e], _, _ => ⟨_, rfl, rfl⟩
  have ed : ds = [] := by
    cases hds
    rfl
  subst ed
  obtain ⟨ds1, hds1, b1_Ratio___init__⟩ := F_Ratio___init__.binds1 (ps := ["self", "top", "bottom"]) 2 0 (by simp) rfl fun T kV doc pm an cdv ct us its hl hl2 => match us, its, hl, hl2 with
    | [_, _], [e], _, _ => ⟨_, rfl, rfl⟩
  have F_Ratio_compare := fun_mk (st := s_Ratio_compare) l_Ratio_compare c_Ratio_compare k_Ratio_compare
  have b_Ratio_compare := F_Ratio_compare.binds (ps := ["self", "other"]) fun _ _ _ _ _ _ us hl => match us, hl with | [_, _], _ => rfl
  have F_Ratio_divided := fun_mk (st := s_Ratio_divided) l_Ratio_divided c_Ratio_divided k_Ratio_divided
  have b_Ratio_divided := F_Ratio_divided.binds (ps := ["self", "other"]) fun _ _ _ _ _ _ us hl => match us, hl with | [_, _], _ => rfl
  have F_Ratio_rounded_down := fun_mk (st := s_Ratio_rounded_down) l_Ratio_rounded_down c_Ratio_rounded_down k_Ratio_rounded_down
  have b_Ratio_rounded_down := F_Ratio_rounded_down.binds (ps := ["self"]) fun _ _ _ _ _ _ us hl => match us, hl with | [_], _ => rfl
  have F_Ratio_rounded_up := fun_mk (st := s_Ratio_rounded_up) l_Ratio_rounded_up c_Ratio_rounded_up k_Ratio_rounded_up
  have b_Ratio_rounded_up := F_Ratio_rounded_up.binds (ps := ["self"]) fun _ _ _ _ _ _ us hl => match us, hl with | [_], _ => rfl
  have F_Ratio_raised := fun_mk (st := s_Ratio_raised) l_Ratio_raised c_Ratio_raised k_Ratio_raised
  have b_Ratio_raised := F_Ratio_raised.binds (ps := ["self", "n"]) fun _ _ _ _ _ _ us hl => match us, hl with | [_, _], _ => rfl
  have F_Ratio_sign := fun_mk (st := s_Ratio_sign) l_Ratio_sign c_Ratio_sign k_Ratio_sign
  have b_Ratio_sign := F_Ratio_sign.binds (ps := ["self"]) fun _ _ _ _ _ _ us hl => match us, hl with | [_], _ => rfl
  have F_Ratio___add__ := fun_mk (st := s_Ratio___add__) l_Ratio___add__ c_Ratio___add__ k_Ratio___add__
  have b_Ratio___add__ := F_Ratio___add__.binds (ps := ["self", "other"]) fun _ _ _ _ _ _ us hl => match us, hl with | [_, _], _ => rfl
  have F_Ratio___sub__ := fun_mk (st := s_Ratio___sub__) l_Ratio___sub__ c_Ratio___sub__ k_Ratio___sub__
  have b_Ratio___sub__ := F_Ratio___sub__.binds (ps := ["self", "other"]) fun _ _ _ _ _ _ us hl => match us, hl with | [_, _], _ => rfl
  have F_Ratio___mul__ := fun_mk (st := s_Ratio___mul__) l_Ratio___mul__ c_Ratio___mul__ k_Ratio___mul__
  have b_Ratio___mul__ := F_Ratio___mul__.binds (ps := ["self", "other"]) fun _ _ _ _ _ _ us hl => match us, hl with | [_, _], _ => rfl
  have F_Ratio___neg__ := fun_mk (st := s_Ratio___neg__) l_Ratio___neg__ c_Ratio___neg__ k_Ratio___neg__
  have b_Ratio___neg__ := F_Ratio___neg__.binds (ps := ["self"]) fun _ _ _ _ _ _ us hl => match us, hl with | [_], _ => rfl
  have F_Ratio___abs__ := fun_mk (st := s_Ratio___abs__) l_Ratio___abs__ c_Ratio___abs__ k_Ratio___abs__
  have b_Ratio___abs__ := F_Ratio___abs__.binds (ps := ["self"]) fun _ _ _ _ _ _ us hl => match us, hl with | [_], _ => rfl
  have F_Ratio___pow__ := fun_mk (st := s_Ratio___pow__) l_Ratio___pow__ c_Ratio___pow__ k_Ratio___pow__
  have b_Ratio___pow__ := F_Ratio___pow__.binds (ps := ["self", "other"]) fun _ _ _ _ _ _ us hl => match us, hl with | [_, _], _ => rfl
  have F__simplest_above_zero := fun_mk (st := s__simplest_above_zero) l__simplest_above_zero c__simplest_above_zero k__simplest_above_zero
  have b__simplest_above_zero := F__simplest_above_zero.binds (ps := ["low", "high"]) fun _ _ _ _ _ _ us hl => match us, hl with | [_, _], _ => rfl
  have F_simplest := fun_mk (st := s_simplest) l_simplest c_simplest k_simplest
  have b_simplest := F_simplest.binds (ps := ["low", "high"]) fun _ _ _ _ _ _ us hl => match us, hl with | [_, _], _ => rfl
  have F__law_start := fun_mk (st := s__law_start) l__law_start c__law_start k__law_start
  have b__law_start := F__law_start.binds (ps := ["script"]) fun _ _ _ _ _ _ us hl => match us, hl with | [_], _ => rfl
  have F__law_digit := fun_mk (st := s__law_digit) l__law_digit c__law_digit k__law_digit
  have b__law_digit := F__law_digit.binds (ps := ["pot", "many"]) fun _ _ _ _ _ _ us hl => match us, hl with | [_, _], _ => rfl
  have F__law_fraction := fun_mk (st := s__law_fraction) l__law_fraction c__law_fraction k__law_fraction
  have b__law_fraction := F__law_fraction.binds (ps := ["pot"]) fun _ _ _ _ _ _ us hl => match us, hl with | [_], _ => rfl
  have F__law_handed := fun_mk (st := s__law_handed) l__law_handed c__law_handed k__law_handed
  have b__law_handed := F__law_handed.binds (ps := ["pot", "pair"]) fun _ _ _ _ _ _ us hl => match us, hl with | [_, _], _ => rfl
  have F__law_lowest := fun_mk (st := s__law_lowest) l__law_lowest c__law_lowest k__law_lowest
  have b__law_lowest := F__law_lowest.binds (ps := ["top", "bottom"]) fun _ _ _ _ _ _ us hl => match us, hl with | [_, _], _ => rfl
  have F__law_plus := fun_mk (st := s__law_plus) l__law_plus c__law_plus k__law_plus
  have b__law_plus := F__law_plus.binds (ps := ["a", "b"]) fun _ _ _ _ _ _ us hl => match us, hl with | [_, _], _ => rfl
  have F__law_times := fun_mk (st := s__law_times) l__law_times c__law_times k__law_times
  have b__law_times := F__law_times.binds (ps := ["a", "b"]) fun _ _ _ _ _ _ us hl => match us, hl with | [_, _], _ => rfl
  have F__law_is := fun_mk (st := s__law_is) l__law_is c__law_is k__law_is
  have b__law_is := F__law_is.binds (ps := ["told", "pair"]) fun _ _ _ _ _ _ us hl => match us, hl with | [_, _], _ => rfl
  have F__law_no_bottom := fun_mk (st := s__law_no_bottom) l__law_no_bottom c__law_no_bottom k__law_no_bottom
  have b__law_no_bottom := F__law_no_bottom.binds (ps := ["top"]) fun _ _ _ _ _ _ us hl => match us, hl with | [_], _ => rfl
  have F__law_no_quotient := fun_mk (st := s__law_no_quotient) l__law_no_quotient c__law_no_quotient k__law_no_quotient
  have b__law_no_quotient := F__law_no_quotient.binds (ps := ["x", "zero"]) fun _ _ _ _ _ _ us hl => match us, hl with | [_, _], _ => rfl
  have F__law_no_exponent := fun_mk (st := s__law_no_exponent) l__law_no_exponent c__law_no_exponent k__law_no_exponent
  have b__law_no_exponent := F__law_no_exponent.binds (ps := ["x", "many"]) fun _ _ _ _ _ _ us hl => match us, hl with | [_, _], _ => rfl
  have F__law_four := fun_mk (st := s__law_four) l__law_four c__law_four k__law_four
  have b__law_four := F__law_four.binds (ps := ["x", "y", "a", "b"]) fun _ _ _ _ _ _ us hl => match us, hl with | [_, _, _, _], _ => rfl
  have F__law_small_powers := fun_mk (st := s__law_small_powers) l__law_small_powers c__law_small_powers k__law_small_powers
  have b__law_small_powers := F__law_small_powers.binds (ps := ["x", "a"]) fun _ _ _ _ _ _ us hl => match us, hl with | [_, _], _ => rfl
  have F__law_drawn_power := fun_mk (st := s__law_drawn_power) l__law_drawn_power c__law_drawn_power k__law_drawn_power
  have b__law_drawn_power := F__law_drawn_power.binds (ps := ["x", "a", "many"]) fun _ _ _ _ _ _ us hl => match us, hl with | [_, _, _], _ => rfl
  have F__law_all_powers := fun_mk (st := s__law_all_powers) l__law_all_powers c__law_all_powers k__law_all_powers
  have b__law_all_powers := F__law_all_powers.binds (ps := ["x"]) fun _ _ _ _ _ _ us hl => match us, hl with | [_], _ => rfl
  have F__law_great_powers := fun_mk (st := s__law_great_powers) l__law_great_powers c__law_great_powers k__law_great_powers
  have b__law_great_powers := F__law_great_powers.binds (ps := ["x", "a", "many"]) fun _ _ _ _ _ _ us hl => match us, hl with | [_, _, _], _ => rfl
  have F__law_alone := fun_mk (st := s__law_alone) l__law_alone c__law_alone k__law_alone
  have b__law_alone := F__law_alone.binds (ps := ["x", "a"]) fun _ _ _ _ _ _ us hl => match us, hl with | [_, _], _ => rfl
  have F__law_long_four := fun_mk (st := s__law_long_four) l__law_long_four c__law_long_four k__law_long_four
  have b__law_long_four := F__law_long_four.binds (ps := ["x", "y", "u", "v", "sign"]) fun _ _ _ _ _ _ us hl => match us, hl with | [_, _, _, _, _], _ => rfl
  have F__law_long_order := fun_mk (st := s__law_long_order) l__law_long_order c__law_long_order k__law_long_order
  have b__law_long_order := F__law_long_order.binds (ps := ["x", "y", "z", "u", "v", "sign"]) fun _ _ _ _ _ _ us hl => match us, hl with | [_, _, _, _, _, _], _ => rfl
  have F__law_long := fun_mk (st := s__law_long) l__law_long c__law_long k__law_long
  have b__law_long := F__law_long.binds (ps := ["pot", "c"]) fun _ _ _ _ _ _ us hl => match us, hl with | [_, _], _ => rfl
  have F_law := fun_mk (st := s_law) l_law c_law k_law
  have b_law := F_law.binds (ps := ["script"]) fun _ _ _ _ _ _ us hl => match us, hl with | [_], _ => rfl
  have F_OutOfBounds___init__ := fun_mk (st := s_OutOfBounds___init__) l_OutOfBounds___init__ c_OutOfBounds___init__ k_OutOfBounds___init__
  have b_OutOfBounds___init__ := F_OutOfBounds___init__.binds (ps := ["self", "value"]) fun _ _ _ _ _ _ us hl => match us, hl with | [_, _], _ => rfl
  refine ⟨PySem.W.fnOf "law" "law" (defArgs s_law) (defBody s_law) (defScope s_law) .none kV_law dc_law pm_law an_law cd_law ct_law, fun s v => .of_eq rfl, fun base _ _ => ?_⟩
  have x1_OutOfBounds : Exc ⟨l.prog, w, K, mg, base⟩ "OutOfBounds" C_OutOfBounds ["value"] := ⟨⟨f_OutOfBounds___init__, _, _, okx_OutOfBounds ox_OutOfBounds no_value_OutOfBounds F_OutOfBounds___init__, b_OutOfBounds___init__, a_OutOfBounds___init__, i_OutOfBounds___init__⟩, ox_OutOfBounds, PySem.W.mg_of X Gn a_OutOfBounds⟩
  have T : Txt ⟨l.prog, w, K, mg, base⟩ C_Ratio C_ZeroBottom C_OutOfBounds C_CarryError := { n_abs := PySem.W.mg_none_of X Gn z_abs, n_len := PySem.W.mg_none_of X Gn z_len, n_int := PySem.W.mg_none_of X Gn z_int, n_bool := PySem.W.mg_none_of X Gn z_bool, n_range := PySem.W.mg_none_of X Gn z_range, n_isinstance := PySem.W.mg_none_of X Gn z_isinstance, n_ValueError := PySem.W.mg_none_of X Gn z_ValueError, mg_gcd := PySem.W.mg_of X Gn v_gcd, gc_MOST_EXPONENT := ⟨_, PySem.W.mg_of X Gn v_MOST_EXPONENT, ⟨_, rfl⟩⟩, mg_Ratio := PySem.W.mg_of X Gn a_Ratio, mg_ZeroBottom := PySem.W.mg_of X Gn a_ZeroBottom, mg_OutOfBounds := PySem.W.mg_of X Gn a_OutOfBounds, mg_CarryError := PySem.W.mg_of X Gn a_CarryError, R_Ratio := S0_Ratio, x0_ZeroBottom := ⟨xi_ZeroBottom, kc_ZeroBottom, ex_ZeroBottom, ty_ZeroBottom, PySem.W.mg_of X Gn a_ZeroBottom⟩, XC_ZeroBottom := ⟨⟨ga_ZeroBottom, gg_ZeroBottom, ex_ZeroBottom, hd_ZeroBottom⟩, is_ZeroBottom, ha_ZeroBottom, gs, gt, mo_ZeroBottom⟩, XC_OutOfBounds := ⟨⟨ga_OutOfBounds, gg_OutOfBounds, ex_OutOfBounds, hd_OutOfBounds⟩, is_OutOfBounds, ha_OutOfBounds, gs, gt, mo_OutOfBounds⟩, x_OutOfBounds := x1_OutOfBounds, no_OutOfBounds_value := no_value_OutOfBounds, is_Ratio_Ratio := kit_self, is_ZeroBottom_ZeroBottom := kit_self, is_ZeroBottom_OutOfBounds := kit_no su_ZeroBottom is_OutOfBounds ty_OutOfBounds su_ZeroBottom_OutOfBounds, is_OutOfBounds_OutOfBounds := kit_self, is_OutOfBounds_ZeroBottom := kit_no su_OutOfBounds is_ZeroBottom ty_ZeroBottom su_OutOfBounds_ZeroBottom, isT_ZeroBottom_ValueError := kit_val sT_ZeroBottom_ValueError, isT_OutOfBounds_ValueError := kit_val sT_OutOfBounds_ValueError, ex_ZeroBottom_CarryError := PySem.W.exm_ref ex_CarryError hd_CarryError ty_CarryError su_ZeroBottom_CarryError, ex_OutOfBounds_CarryError := PySem.W.exm_ref ex_CarryError hd_CarryError ty_CarryError su_OutOfBounds_CarryError }
  have k1_Ratio : Mak ⟨l.prog, w, K, mg, base⟩ _ "Ratio" C_Ratio _ _ [.int 1] := ⟨⟨f_Ratio___init__, ok_ginit T F_Ratio___init__ b1_Ratio___init__ hds1 rfl, ⟨mk_Ratio, a_Ratio___init__, i_Ratio___init__, kc_Ratio⟩⟩, T.mg_Ratio⟩
  have k_Ratio : Mak ⟨l.prog, w, K, mg, base⟩ _ "Ratio" C_Ratio _ _ [] := ⟨⟨f_Ratio___init__, ok_ginit T F_Ratio___init__ b_Ratio___init__ .nil rfl, ⟨mk_Ratio, a_Ratio___init__, i_Ratio___init__, kc_Ratio⟩⟩, T.mg_Ratio⟩
  have m_Ratio_compare : Met ⟨l.prog, w, K, mg, base⟩ _ C_Ratio ["top", "bottom"] "compare" _ _ [] := ⟨⟨f_Ratio_compare, ok_gcmp T F_Ratio_compare b_Ratio_compare, ⟨a_Ratio_compare, i_Ratio_compare, k_Ratio_compare⟩⟩, cls_Ratio, by decide +kernel⟩
  have m_Ratio_divided : Met ⟨l.prog, w, K, mg, base⟩ _ C_Ratio ["top", "bottom"] "divided" _ _ [] := ⟨⟨f_Ratio_divided, ok_gdiv T k_Ratio F_Ratio_divided b_Ratio_divided, ⟨a_Ratio_divided, i_Ratio_divided, k_Ratio_divided⟩⟩, cls_Ratio, by decide +kernel⟩
  have m_Ratio_rounded_down : Met ⟨l.prog, w, K, mg, base⟩ _ C_Ratio ["top", "bottom"] "rounded_down" _ _ [] := ⟨⟨f_Ratio_rounded_down, ok_gdown T F_Ratio_rounded_down b_Ratio_rounded_down, ⟨a_Ratio_rounded_down, i_Ratio_rounded_down, k_Ratio_rounded_down⟩⟩, cls_Ratio, by decide +kernel⟩
  have m_Ratio_rounded_up : Met ⟨l.prog, w, K, mg, base⟩ _ C_Ratio ["top", "bottom"] "rounded_up" _ _ [] := ⟨⟨f_Ratio_rounded_up, ok_gup T F_Ratio_rounded_up b_Ratio_rounded_up, ⟨a_Ratio_rounded_up, i_Ratio_rounded_up, k_Ratio_rounded_up⟩⟩, cls_Ratio, by decide +kernel⟩
  have m_Ratio_raised : Met ⟨l.prog, w, K, mg, base⟩ _ C_Ratio ["top", "bottom"] "raised" _ _ [] := ⟨⟨f_Ratio_raised, ok_graised T k_Ratio F_Ratio_raised b_Ratio_raised, ⟨a_Ratio_raised, i_Ratio_raised, k_Ratio_raised⟩⟩, cls_Ratio, by decide +kernel⟩
  have m_Ratio_sign : Met ⟨l.prog, w, K, mg, base⟩ _ C_Ratio ["top", "bottom"] "sign" _ _ [] := ⟨⟨f_Ratio_sign, ok_gsign T F_Ratio_sign b_Ratio_sign, ⟨a_Ratio_sign, i_Ratio_sign, k_Ratio_sign⟩⟩, cls_Ratio, by decide +kernel⟩
  have o_Ratio___add__ : Opr ⟨l.prog, w, K, mg, base⟩ _ C_Ratio "__add__" _ _ := ⟨⟨f_Ratio___add__, ok_gadd T k_Ratio F_Ratio___add__ b_Ratio___add__, a_Ratio___add__, i_Ratio___add__⟩, cls_Ratio, sf_Ratio⟩
  have o_Ratio___sub__ : Opr ⟨l.prog, w, K, mg, base⟩ _ C_Ratio "__sub__" _ _ := ⟨⟨f_Ratio___sub__, ok_gsub T k_Ratio F_Ratio___sub__ b_Ratio___sub__, a_Ratio___sub__, i_Ratio___sub__⟩, cls_Ratio, sf_Ratio⟩
  have o_Ratio___mul__ : Opr ⟨l.prog, w, K, mg, base⟩ _ C_Ratio "__mul__" _ _ := ⟨⟨f_Ratio___mul__, ok_gmul T k_Ratio F_Ratio___mul__ b_Ratio___mul__, a_Ratio___mul__, i_Ratio___mul__⟩, cls_Ratio, sf_Ratio⟩
  have o_Ratio___neg__ : Opr ⟨l.prog, w, K, mg, base⟩ _ C_Ratio "__neg__" _ _ := ⟨⟨f_Ratio___neg__, ok_gneg T k_Ratio F_Ratio___neg__ b_Ratio___neg__, a_Ratio___neg__, i_Ratio___neg__⟩, cls_Ratio, sf_Ratio⟩
  have o_Ratio___abs__ : Opr ⟨l.prog, w, K, mg, base⟩ _ C_Ratio "__abs__" _ _ := ⟨⟨f_Ratio___abs__, ok_gabs T k_Ratio F_Ratio___abs__ b_Ratio___abs__, a_Ratio___abs__, i_Ratio___abs__⟩, cls_Ratio, sf_Ratio⟩
  have o_Ratio___pow__ : Opr ⟨l.prog, w, K, mg, base⟩ _ C_Ratio "__pow__" _ _ := ⟨⟨f_Ratio___pow__, ok_gpow T m_Ratio_raised F_Ratio___pow__ b_Ratio___pow__, a_Ratio___pow__, i_Ratio___pow__⟩, cls_Ratio, sf_Ratio⟩
  have pc : PowC K C_Ratio := ⟨by rw [show dunderR "pow" = ("__rpow__" : Str) by decide +kernel]; exact rp_Ratio, sI_Ratio⟩
  have c__simplest_above_zero : Cal ⟨l.prog, w, K, mg, base⟩ _ "_simplest_above_zero" _ _ [] := ⟨⟨_, ok_above T k_Ratio F__simplest_above_zero b__simplest_above_zero, PySem.W.mg_of X Gn a__simplest_above_zero, k__simplest_above_zero⟩⟩
  have c_simplest : Cal ⟨l.prog, w, K, mg, base⟩ _ "simplest" _ _ [] := ⟨⟨_, ok_simplest T k1_Ratio m_Ratio_compare m_Ratio_sign o_Ratio___neg__ c__simplest_above_zero F_simplest b_simplest, PySem.W.mg_of X Gn a_simplest, k_simplest⟩⟩
  have c__law_start : Cal ⟨l.prog, w, K, mg, base⟩ _ "_law_start" _ _ [] := ⟨⟨_, ok_pot T F__law_start b__law_start, PySem.W.mg_of X Gn a__law_start, k__law_start⟩⟩
  have c__law_digit : Cal ⟨l.prog, w, K, mg, base⟩ _ "_law_digit" _ _ [] := ⟨⟨_, ok_digit T F__law_digit b__law_digit, PySem.W.mg_of X Gn a__law_digit, k__law_digit⟩⟩
  have c__law_fraction : Cal ⟨l.prog, w, K, mg, base⟩ _ "_law_fraction" _ _ [] := ⟨⟨_, ok_fraction T c__law_digit F__law_fraction b__law_fraction, PySem.W.mg_of X Gn a__law_fraction, k__law_fraction⟩⟩
  have c__law_handed : Cal ⟨l.prog, w, K, mg, base⟩ _ "_law_handed" _ _ [] := ⟨⟨_, ok_handed T c__law_digit F__law_handed b__law_handed, PySem.W.mg_of X Gn a__law_handed, k__law_handed⟩⟩
  have c__law_lowest : Cal ⟨l.prog, w, K, mg, base⟩ _ "_law_lowest" _ _ [] := ⟨⟨_, ok_lowest T F__law_lowest b__law_lowest, PySem.W.mg_of X Gn a__law_lowest, k__law_lowest⟩⟩
  have c__law_plus : Cal ⟨l.prog, w, K, mg, base⟩ _ "_law_plus" _ _ [] := ⟨⟨_, ok_plus T c__law_lowest F__law_plus b__law_plus, PySem.W.mg_of X Gn a__law_plus, k__law_plus⟩⟩
  have c__law_times : Cal ⟨l.prog, w, K, mg, base⟩ _ "_law_times" _ _ [] := ⟨⟨_, ok_times T c__law_lowest F__law_times b__law_times, PySem.W.mg_of X Gn a__law_times, k__law_times⟩⟩
  have c__law_is : Cal ⟨l.prog, w, K, mg, base⟩ _ "_law_is" _ _ [] := ⟨⟨_, ok_is T F__law_is b__law_is, PySem.W.mg_of X Gn a__law_is, k__law_is⟩⟩
  have c__law_no_bottom : Cal ⟨l.prog, w, K, mg, base⟩ _ "_law_no_bottom" _ _ [] := ⟨⟨_, ok_no_bottom T k_Ratio F__law_no_bottom b__law_no_bottom, PySem.W.mg_of X Gn a__law_no_bottom, k__law_no_bottom⟩⟩
  have c__law_no_quotient : Cal ⟨l.prog, w, K, mg, base⟩ _ "_law_no_quotient" _ _ [] := ⟨⟨_, ok_no_quotient T m_Ratio_divided F__law_no_quotient b__law_no_quotient, PySem.W.mg_of X Gn a__law_no_quotient, k__law_no_quotient⟩⟩
  have c__law_no_exponent : Cal ⟨l.prog, w, K, mg, base⟩ _ "_law_no_exponent" _ _ [] := ⟨⟨_, ok_no_exponent T m_Ratio_raised F__law_no_exponent b__law_no_exponent, PySem.W.mg_of X Gn a__law_no_exponent, k__law_no_exponent⟩⟩
  have c__law_four : Cal ⟨l.prog, w, K, mg, base⟩ _ "_law_four" _ _ [] := ⟨⟨_, ok_four T m_Ratio_divided o_Ratio___add__ o_Ratio___sub__ o_Ratio___mul__ c__law_plus c__law_times c__law_is c__law_no_quotient F__law_four b__law_four, PySem.W.mg_of X Gn a__law_four, k__law_four⟩⟩
  have c__law_small_powers : Cal ⟨l.prog, w, K, mg, base⟩ _ "_law_small_powers" _ _ [] := ⟨⟨_, ok_small_powers T pc m_Ratio_raised o_Ratio___pow__ c__law_is F__law_small_powers b__law_small_powers, PySem.W.mg_of X Gn a__law_small_powers, k__law_small_powers⟩⟩
  have c__law_drawn_power : Cal ⟨l.prog, w, K, mg, base⟩ _ "_law_drawn_power" _ _ [] := ⟨⟨_, ok_drawn_power T m_Ratio_raised c__law_is F__law_drawn_power b__law_drawn_power, PySem.W.mg_of X Gn a__law_drawn_power, k__law_drawn_power⟩⟩
  have c__law_all_powers : Cal ⟨l.prog, w, K, mg, base⟩ _ "_law_all_powers" _ _ [] := ⟨⟨_, ok_all_powers T pc o_Ratio___pow__ F__law_all_powers b__law_all_powers, PySem.W.mg_of X Gn a__law_all_powers, k__law_all_powers⟩⟩
  have c__law_great_powers : Cal ⟨l.prog, w, K, mg, base⟩ _ "_law_great_powers" _ _ [] := ⟨⟨_, ok_great_powers T m_Ratio_raised c__law_is c__law_all_powers F__law_great_powers b__law_great_powers, PySem.W.mg_of X Gn a__law_great_powers, k__law_great_powers⟩⟩
  have c__law_alone : Cal ⟨l.prog, w, K, mg, base⟩ _ "_law_alone" _ _ [] := ⟨⟨_, ok_alone T o_Ratio___neg__ o_Ratio___abs__ c__law_is c__law_four c__law_small_powers F__law_alone b__law_alone, PySem.W.mg_of X Gn a__law_alone, k__law_alone⟩⟩
  have c__law_long_four : Cal ⟨l.prog, w, K, mg, base⟩ _ "_law_long_four" _ _ [] := ⟨⟨_, ok_long_four T m_Ratio_divided o_Ratio___add__ o_Ratio___sub__ o_Ratio___mul__ c__law_is F__law_long_four b__law_long_four, PySem.W.mg_of X Gn a__law_long_four, k__law_long_four⟩⟩
  have c__law_long_order : Cal ⟨l.prog, w, K, mg, base⟩ _ "_law_long_order" _ _ [] := ⟨⟨_, ok_long_order T m_Ratio_compare m_Ratio_sign m_Ratio_rounded_down m_Ratio_rounded_up F__law_long_order b__law_long_order, PySem.W.mg_of X Gn a__law_long_order, k__law_long_order⟩⟩
  have c__law_long : Cal ⟨l.prog, w, K, mg, base⟩ _ "_law_long" _ _ [] := ⟨⟨_, ok_long T pc k_Ratio m_Ratio_raised o_Ratio___neg__ o_Ratio___abs__ o_Ratio___pow__ c_simplest c__law_digit c__law_handed c__law_is c__law_long_four c__law_long_order F__law_long b__law_long, PySem.W.mg_of X Gn a__law_long, k__law_long⟩⟩
  exact ok_law T k1_Ratio k_Ratio c__law_start c__law_digit c__law_fraction c__law_handed c__law_lowest c__law_is c__law_no_bottom c__law_no_quotient c__law_no_exponent c__law_four c__law_drawn_power c__law_great_powers c__law_alone c__law_long F_law
end K01
set_option Elab.async false
set_option linter.all false
/-
{C_Ratio : Addr} {C_ZeroBottom : Addr} {C_OutOfBounds N_e_OutOfBounds : Addr} {nm_OutOfBounds q_OutOfBounds : Str} {bs_OutOfBounds bm_OutOfBounds sn_OutOfBounds : _} {sub_OutOfBounds ab_OutOfBounds col_OutOfBounds dd_OutOfBounds m0_OutOfBounds m1_OutOfBounds m2_OutOfBounds m3_OutOfBounds m5_OutOfBounds : _} {C_CarryError : Addr} {f_Ratio___init__ : Addr} {od_Ratio___init__ an_Ratio___init__ : Option Addr} {sl_Ratio___init__ : Array (Option Value)} {oc_Ratio___init__ kV_Ratio___init__ dc_Ratio___init__ pm_Ratio___init__ cd_Ratio___init__ ct_Ratio___init__ : Value} {T_Ratio___init__ : Addr} {tk_Ratio___init__ : Tok} {oT_Ratio___init__ : Option Addr} {nT_Ratio___init__ : Nat} {sT_Ratio___init__ : Array (Option Value)} {cT_Ratio___init__ : Value} {f_Ratio_compare : Addr} {od_Ratio_compare an_Ratio_compare : Option Addr} {sl_Ratio_compare : Array (Option Value)} {oc_Ratio_compare kV_Ratio_compare dc_Ratio_compare pm_Ratio_compare cd_Ratio_compare ct_Ratio_compare : Value} {f_Ratio_divided : Addr} {od_Ratio_divided an_Ratio_divided : Option Addr} {sl_Ratio_divided : Array (Option Value)} {oc_Ratio_divided kV_Ratio_divided dc_Ratio_divided pm_Ratio_divided cd_Ratio_divided ct_Ratio_divided : Value} {f_Ratio_rounded_down : Addr} {od_Ratio_rounded_down an_Ratio_rounded_down : Option Addr} {sl_Ratio_rounded_down : Array (Option Value)} {oc_Ratio_rounded_down kV_Ratio_rounded_down dc_Ratio_rounded_down pm_Ratio_rounded_down cd_Ratio_rounded_down ct_Ratio_rounded_down : Value} {f_Ratio_rounded_up : Addr} {od_Ratio_rounded_up an_Ratio_rounded_up : Option Addr} {sl_Ratio_rounded_up : Array (Option Value)} {oc_Ratio_rounded_up kV_Ratio_rounded_up dc_Ratio_rounded_up pm_Ratio_rounded_up cd_Ratio_rounded_up ct_Ratio_rounded_up : Value} {f_Ratio_raised : Addr} {od_Ratio_raised an_Ratio_raised : Option Addr} {sl_Ratio_raised : Array (Option Value)} {oc_Ratio_raised kV_Ratio_raised dc_Ratio_raised pm_Ratio_raised cd_Ratio_raised ct_Ratio_raised : Value} {f_Ratio_sign : Addr} {od_Ratio_sign an_Ratio_sign : Option Addr} {sl_Ratio_sign : Array (Option Value)} {oc_Ratio_sign kV_Ratio_sign dc_Ratio_sign pm_Ratio_sign cd_Ratio_sign ct_Ratio_sign : Value} {f_Ratio___add__ : Addr} {od_Ratio___add__ an_Ratio___add__ : Option Addr} {sl_Ratio___add__ : Array (Option Value)} {oc_Ratio___add__ kV_Ratio___add__ dc_Ratio___add__ pm_Ratio___add__ cd_Ratio___add__ ct_Ratio___add__ : Value} {f_Ratio___sub__ : Addr} {od_Ratio___sub__ an_Ratio___sub__ : Option Addr} {sl_Ratio___sub__ : Array (Option Value)} {oc_Ratio___sub__ kV_Ratio___sub__ dc_Ratio___sub__ pm_Ratio___sub__ cd_Ratio___sub__ ct_Ratio___sub__ : Value} {f_Ratio___mul__ : Addr} {od_Ratio___mul__ an_Ratio___mul__ : Option Addr} {sl_Ratio___mul__ : Array (Option Value)} {oc_Ratio___mul__ kV_Ratio___mul__ dc_Ratio___mul__ pm_Ratio___mul__ cd_Ratio___mul__ ct_Ratio___mul__ : Value} {f_Ratio___neg__ : Addr} {od_Ratio___neg__ an_Ratio___neg__ : Option Addr} {sl_Ratio___neg__ : Array (Option Value)} {oc_Ratio___neg__ kV_Ratio___neg__ dc_Ratio___neg__ pm_Ratio___neg__ cd_Ratio___neg__ ct_Ratio___neg__ : Value} {f_Ratio___abs__ : Addr} {od_Ratio___abs__ an_Ratio___abs__ : Option Addr} {sl_Ratio___abs__ : Array (Option Value)} {oc_Ratio___abs__ kV_Ratio___abs__ dc_Ratio___abs__ pm_Ratio___abs__ cd_Ratio___abs__ ct_Ratio___abs__ : Value} {f_Ratio___pow__ : Addr} {od_Ratio___pow__ an_Ratio___pow__ : Option Addr} {sl_Ratio___pow__ : Array (Option Value)} {oc_Ratio___pow__ kV_Ratio___pow__ dc_Ratio___pow__ pm_Ratio___pow__ cd_Ratio___pow__ ct_Ratio___pow__ : Value} {f__simplest_above_zero : Addr} {od__simplest_above_zero an__simplest_above_zero : Option Addr} {sl__simplest_above_zero : Array (Option Value)} {oc__simplest_above_zero kV__simplest_above_zero dc__simplest_above_zero pm__simplest_above_zero cd__simplest_above_zero ct__simplest_above_zero : Value} {f_simplest : Addr} {od_simplest an_simplest : Option Addr} {sl_simplest : Array (Option Value)} {oc_simplest kV_simplest dc_simplest pm_simplest cd_simplest ct_simplest : Value} {f__law_start : Addr} {od__law_start an__law_start : Option Addr} {sl__law_start : Array (Option Value)} {oc__law_start kV__law_start dc__law_start pm__law_start cd__law_start ct__law_start : Value} {f__law_digit : Addr} {od__law_digit an__law_digit : Option Addr} {sl__law_digit : Array (Option Value)} {oc__law_digit kV__law_digit dc__law_digit pm__law_digit cd__law_digit ct__law_digit : Value} {f__law_fraction : Addr} {od__law_fraction an__law_fraction : Option Addr} {sl__law_fraction : Array (Option Value)} {oc__law_fraction kV__law_fraction dc__law_fraction pm__law_fraction cd__law_fraction ct__law_fraction : Value} {f__law_handed : Addr} {od__law_handed an__law_handed : Option Addr} {sl__law_handed : Array (Option Value)} {oc__law_handed kV__law_handed dc__law_handed pm__law_handed cd__law_handed ct__law_handed : Value} {f__law_lowest : Addr} {od__law_lowest an__law_lowest : Option Addr} {sl__law_lowest : Array (Option Value)} {oc__law_lowest kV__law_lowest dc__law_lowest pm__law_lowest cd__law_lowest ct__law_lowest : Value} {f__law_plus : Addr} {od__law_plus an__law_plus : Option Addr} {sl__law_plus : Array (Option Value)} {oc__law_plus kV__law_plus dc__law_plus pm__law_plus cd__law_plus ct__law_plus : Value} {f__law_times : Addr} {od__law_times an__law_times : Option Addr} {sl__law_times : Array (Option Value)} {oc__law_times kV__law_times dc__law_times pm__law_times cd__law_times ct__law_times : Value} {f__law_is : Addr} {od__law_is an__law_is : Option Addr} {sl__law_is : Array (Option Value)} {oc__law_is kV__law_is dc__law_is pm__law_is cd__law_is ct__law_is : Value} {f__law_no_bottom : Addr} {od__law_no_bottom an__law_no_bottom : Option Addr} {sl__law_no_bottom : Array (Option Value)} {oc__law_no_bottom kV__law_no_bottom dc__law_no_bottom pm__law_no_bottom cd__law_no_bottom ct__law_no_bottom : Value} {f__law_no_quotient : Addr} {od__law_no_quotient an__law_no_quotient : Option Addr} {sl__law_no_quotient : Array (Option Value)} {oc__law_no_quotient kV__law_no_quotient dc__law_no_quotient pm__law_no_quotient cd__law_no_quotient ct__law_no_quotient : Value} {f__law_no_exponent : Addr} {od__law_no_exponent an__law_no_exponent : Option Addr} {sl__law_no_exponent : Array (Option Value)} {oc__law_no_exponent kV__law_no_exponent dc__law_no_exponent pm__law_no_exponent cd__law_no_exponent ct__law_no_exponent : Value} {f__law_four : Addr} {od__law_four an__law_four : Option Addr} {sl__law_four : Array (Option Value)} {oc__law_four kV__law_four dc__law_four pm__law_four cd__law_four ct__law_four : Value} {f__law_small_powers : Addr} {od__law_small_powers an__law_small_powers : Option Addr} {sl__law_small_powers : Array (Option Value)} {oc__law_small_powers kV__law_small_powers dc__law_small_powers pm__law_small_powers cd__law_small_powers ct__law_small_powers : Value} {f__law_drawn_power : Addr} {od__law_drawn_power an__law_drawn_power : Option Addr} {sl__law_drawn_power : Array (Option Value)} {oc__law_drawn_power kV__law_drawn_power dc__law_drawn_power pm__law_drawn_power cd__law_drawn_power ct__law_drawn_power : Value} {f__law_all_powers : Addr} {od__law_all_powers an__law_all_powers : Option Addr} {sl__law_all_powers : Array (Option Value)} {oc__law_all_powers kV__law_all_powers dc__law_all_powers pm__law_all_powers cd__law_all_powers ct__law_all_powers : Value} {f__law_great_powers : Addr} {od__law_great_powers an__law_great_powers : Option Addr} {sl__law_great_powers : Array (Option Value)} {oc__law_great_powers kV__law_great_powers dc__law_great_powers pm__law_great_powers cd__law_great_powers ct__law_great_powers : Value} {f__law_alone : Addr} {od__law_alone an__law_alone : Option Addr} {sl__law_alone : Array (Option Value)} {oc__law_alone kV__law_alone dc__law_alone pm__law_alone cd__law_alone ct__law_alone : Value} {f__law_long_four : Addr} {od__law_long_four an__law_long_four : Option Addr} {sl__law_long_four : Array (Option Value)} {oc__law_long_four kV__law_long_four dc__law_long_four pm__law_long_four cd__law_long_four ct__law_long_four : Value} {f__law_long_order : Addr} {od__law_long_order an__law_long_order : Option Addr} {sl__law_long_order : Array (Option Value)} {oc__law_long_order kV__law_long_order dc__law_long_order pm__law_long_order cd__law_long_order ct__law_long_order : Value} {f__law_long : Addr} {od__law_long an__law_long : Option Addr} {sl__law_long : Array (Option Value)} {oc__law_long kV__law_long dc__law_long pm__law_long cd__law_long ct__law_long : Value} {f_law : Addr} {od_law an_law : Option Addr} {sl_law : Array (Option Value)} {oc_law kV_law dc_law pm_law cd_law ct_law : Value} {f_OutOfBounds___init__ : Addr} {od_OutOfBounds___init__ an_OutOfBounds___init__ : Option Addr} {sl_OutOfBounds___init__ : Array (Option Value)} {oc_OutOfBounds___init__ kV_OutOfBounds___init__ dc_OutOfBounds___init__ pm_OutOfBounds___init__ cd_OutOfBounds___init__ ct_OutOfBounds___init__ : Value} {tk_MOST_EXPONENT : Tok}
    (a_Ratio : PySem.W.nsIn K mainGlobals "Ratio" = some (some (.ref C_Ratio)))
    (pg_Ratio : PySem.W.plainGet K C_Ratio Str.empty = true)
    (hd_Ratio : PySem.W.hasDictIn K C_Ratio = true)
    (po_Ratio : PySem.W.plainOver K C_Ratio = true)
    (sa_Ratio : PySem.W.findIn K (.ref C_Ratio) "__setattr__" = some (some (.builtin "object.__setattr__")))
    (mk_Ratio : PySem.W.makesIn K C_Ratio = true)
    (sf_Ratio : PySem.W.selfFirst K C_Ratio = true)
    (kc_Ratio : PySem.W.keepIn K (.ref C_Ratio) = true)
    (ha_Ratio : PySem.W.findIn K (.ref C_Ratio) "__class__" = some (some (.builtin "object.__class__")))
    (mo_Ratio : PySem.W.mroIn K C_Ratio (.type "object") = some true)
    (is_Ratio : PySem.W.isClsIn K C_Ratio = true)
    (su_Ratio : PySem.W.subIn K (.ref C_Ratio) (.ref C_Ratio) = some true)
    (ty_Ratio : PySem.W.typeIn K (.ref C_Ratio) = some (.type "type"))
    (no_top_Ratio : PySem.W.findIn K (.ref C_Ratio) "top" = some none)
    (no_bottom_Ratio : PySem.W.findIn K (.ref C_Ratio) "bottom" = some none)
    (a_ZeroBottom : PySem.W.nsIn K mainGlobals "ZeroBottom" = some (some (.ref C_ZeroBottom)))
    (xi_ZeroBottom : PySem.W.excIn K C_ZeroBottom [.type "ValueError", .type "Exception", .type "BaseException", .type "object"] "ValueError.__new__" = true)
    (ex_ZeroBottom : PySem.W.subIn K (.ref C_ZeroBottom) (.type "BaseException") = some true)
    (ty_ZeroBottom : PySem.W.typeIn K (.ref C_ZeroBottom) = some (.type "type"))
    (kc_ZeroBottom : PySem.W.keepIn K (.ref C_ZeroBottom) = true)
    (ga_ZeroBottom : PySem.W.findIn K (.ref C_ZeroBottom) "__getattribute__" = some (some (.builtin "BaseException.__getattribute__")))
    (gg_ZeroBottom : PySem.W.findIn K (.ref C_ZeroBottom) "__getattr__" = some none)
    (hd_ZeroBottom : PySem.W.hasDictIn K C_ZeroBottom = true)
    (ha_ZeroBottom : PySem.W.findIn K (.ref C_ZeroBottom) "__class__" = some (some (.builtin "object.__class__")))
    (mo_ZeroBottom : PySem.W.mroIn K C_ZeroBottom (.type "object") = some true)
    (is_ZeroBottom : PySem.W.isClsIn K C_ZeroBottom = true)
    (su_ZeroBottom : PySem.W.subIn K (.ref C_ZeroBottom) (.ref C_ZeroBottom) = some true)
    (a_OutOfBounds : PySem.W.nsIn K mainGlobals "OutOfBounds" = some (some (.ref C_OutOfBounds)))
    (l_OutOfBounds : K.lookup C_OutOfBounds = some (excClassObj nm_OutOfBounds q_OutOfBounds C_OutOfBounds N_e_OutOfBounds bs_OutOfBounds bm_OutOfBounds true sn_OutOfBounds sub_OutOfBounds ab_OutOfBounds col_OutOfBounds dd_OutOfBounds m0_OutOfBounds m1_OutOfBounds m2_OutOfBounds m3_OutOfBounds m5_OutOfBounds "ValueError.__new__"))
    (rf_OutOfBounds : PySem.HandSPX.refsVE bm_OutOfBounds = true)
    (sa_OutOfBounds : PySem.W.findIn K (.ref C_OutOfBounds) "__setattr__" = some (some (.builtin "object.__setattr__")))
    (ex_OutOfBounds : PySem.W.subIn K (.ref C_OutOfBounds) (.type "BaseException") = some true)
    (ty_OutOfBounds : PySem.W.typeIn K (.ref C_OutOfBounds) = some (.type "type"))
    (kc_OutOfBounds : PySem.W.keepIn K (.ref C_OutOfBounds) = true)
    (ga_OutOfBounds : PySem.W.findIn K (.ref C_OutOfBounds) "__getattribute__" = some (some (.builtin "BaseException.__getattribute__")))
    (gg_OutOfBounds : PySem.W.findIn K (.ref C_OutOfBounds) "__getattr__" = some none)
    (hd_OutOfBounds : PySem.W.hasDictIn K C_OutOfBounds = true)
    (ha_OutOfBounds : PySem.W.findIn K (.ref C_OutOfBounds) "__class__" = some (some (.builtin "object.__class__")))
    (mo_OutOfBounds : PySem.W.mroIn K C_OutOfBounds (.type "object") = some true)
    (is_OutOfBounds : PySem.W.isClsIn K C_OutOfBounds = true)
    (su_OutOfBounds : PySem.W.subIn K (.ref C_OutOfBounds) (.ref C_OutOfBounds) = some true)
    (no_value_OutOfBounds : PySem.W.findIn K (.ref C_OutOfBounds) "value" = some none)
    (a_CarryError : PySem.W.nsIn K mainGlobals "CarryError" = some (some (.ref C_CarryError)))
    (ex_CarryError : PySem.W.subIn K (.ref C_CarryError) (.type "BaseException") = some true)
    (ty_CarryError : PySem.W.typeIn K (.ref C_CarryError) = some (.type "type"))
    (hd_CarryError : PySem.W.hasDictIn K C_CarryError = true)
    (is_CarryError : PySem.W.isClsIn K C_CarryError = true)
    (su_ZeroBottom_OutOfBounds : PySem.W.subIn K (.ref C_ZeroBottom) (.ref C_OutOfBounds) = some false)
    (su_OutOfBounds_ZeroBottom : PySem.W.subIn K (.ref C_OutOfBounds) (.ref C_ZeroBottom) = some false)
    (su_ZeroBottom_CarryError : PySem.W.subIn K (.ref C_ZeroBottom) (.ref C_CarryError) = some true)
    (su_OutOfBounds_CarryError : PySem.W.subIn K (.ref C_OutOfBounds) (.ref C_CarryError) = some true)
    (sT_ZeroBottom_ValueError : PySem.W.subIn K (.ref C_ZeroBottom) (.type "ValueError") = some true)
    (sT_OutOfBounds_ValueError : PySem.W.subIn K (.ref C_OutOfBounds) (.type "ValueError") = some true)
    (gs : PySem.W.specialIn K (.builtin "object.__class__") "__get__" = some (some (.builtin "getset_descriptor.__get__")))
    (gt : PySem.W.takesIn K (.builtin "object.__class__") = some true)
    (a_Ratio___init__ : PySem.W.findIn K (.ref C_Ratio) "__init__" = some (some (.ref f_Ratio___init__)))
    (i_Ratio___init__ : PySem.W.isFn K (.ref f_Ratio___init__) = true)
    (l_Ratio___init__ : K.lookup f_Ratio___init__ = some ⟨oc_Ratio___init__, od_Ratio___init__, .func (PySem.W.fnOf "__init__" "Ratio.__init__" (defArgs s_Ratio___init__) (defBody s_Ratio___init__) (defScope s_Ratio___init__) (.ref T_Ratio___init__) kV_Ratio___init__ dc_Ratio___init__ pm_Ratio___init__ an_Ratio___init__ cd_Ratio___init__ ct_Ratio___init__), sl_Ratio___init__⟩)
    (lT_Ratio___init__ : K.lookup T_Ratio___init__ = some ⟨cT_Ratio___init__, oT_Ratio___init__, .seq [Value.int 1 tk_Ratio___init__].toArray nT_Ratio___init__, sT_Ratio___init__⟩)
    (c_Ratio___init__ : PySem.W.codeIn K cd_Ratio___init__ "Ratio.__init__" = true)
    (k_Ratio___init__ : PySem.W.keepIn K (.ref f_Ratio___init__) = true)
    (a_Ratio_compare : PySem.W.findIn K (.ref C_Ratio) "compare" = some (some (.ref f_Ratio_compare)))
    (i_Ratio_compare : PySem.W.isFn K (.ref f_Ratio_compare) = true)
    (l_Ratio_compare : K.lookup f_Ratio_compare = some ⟨oc_Ratio_compare, od_Ratio_compare, .func (PySem.W.fnOf "compare" "Ratio.compare" (defArgs s_Ratio_compare) (defBody s_Ratio_compare) (defScope s_Ratio_compare) .none kV_Ratio_compare dc_Ratio_compare pm_Ratio_compare an_Ratio_compare cd_Ratio_compare ct_Ratio_compare), sl_Ratio_compare⟩)
    (c_Ratio_compare : PySem.W.codeIn K cd_Ratio_compare "Ratio.compare" = true)
    (k_Ratio_compare : PySem.W.keepIn K (.ref f_Ratio_compare) = true)
    (a_Ratio_divided : PySem.W.findIn K (.ref C_Ratio) "divided" = some (some (.ref f_Ratio_divided)))
    (i_Ratio_divided : PySem.W.isFn K (.ref f_Ratio_divided) = true)
    (l_Ratio_divided : K.lookup f_Ratio_divided = some ⟨oc_Ratio_divided, od_Ratio_divided, .func (PySem.W.fnOf "divided" "Ratio.divided" (defArgs s_Ratio_divided) (defBody s_Ratio_divided) (defScope s_Ratio_divided) .none kV_Ratio_divided dc_Ratio_divided pm_Ratio_divided an_Ratio_divided cd_Ratio_divided ct_Ratio_divided), sl_Ratio_divided⟩)
    (c_Ratio_divided : PySem.W.codeIn K cd_Ratio_divided "Ratio.divided" = true)
    (k_Ratio_divided : PySem.W.keepIn K (.ref f_Ratio_divided) = true)
    (a_Ratio_rounded_down : PySem.W.findIn K (.ref C_Ratio) "rounded_down" = some (some (.ref f_Ratio_rounded_down)))
    (i_Ratio_rounded_down : PySem.W.isFn K (.ref f_Ratio_rounded_down) = true)
    (l_Ratio_rounded_down : K.lookup f_Ratio_rounded_down = some ⟨oc_Ratio_rounded_down, od_Ratio_rounded_down, .func (PySem.W.fnOf "rounded_down" "Ratio.rounded_down" (defArgs s_Ratio_rounded_down) (defBody s_Ratio_rounded_down) (defScope s_Ratio_rounded_down) .none kV_Ratio_rounded_down dc_Ratio_rounded_down pm_Ratio_rounded_down an_Ratio_rounded_down cd_Ratio_rounded_down ct_Ratio_rounded_down), sl_Ratio_rounded_down⟩)
    (c_Ratio_rounded_down : PySem.W.codeIn K cd_Ratio_rounded_down "Ratio.rounded_down" = true)
    (k_Ratio_rounded_down : PySem.W.keepIn K (.ref f_Ratio_rounded_down) = true)
    (a_Ratio_rounded_up : PySem.W.findIn K (.ref C_Ratio) "rounded_up" = some (some (.ref f_Ratio_rounded_up)))
    (i_Ratio_rounded_up : PySem.W.isFn K (.ref f_Ratio_rounded_up) = true)
    (l_Ratio_rounded_up : K.lookup f_Ratio_rounded_up = some ⟨oc_Ratio_rounded_up, od_Ratio_rounded_up, .func (PySem.W.fnOf "rounded_up" "Ratio.rounded_up" (defArgs s_Ratio_rounded_up) (defBody s_Ratio_rounded_up) (defScope s_Ratio_rounded_up) .none kV_Ratio_rounded_up dc_Ratio_rounded_up pm_Ratio_rounded_up an_Ratio_rounded_up cd_Ratio_rounded_up ct_Ratio_rounded_up), sl_Ratio_rounded_up⟩)
    (c_Ratio_rounded_up : PySem.W.codeIn K cd_Ratio_rounded_up "Ratio.rounded_up" = true)
    (k_Ratio_rounded_up : PySem.W.keepIn K (.ref f_Ratio_rounded_up) = true)
    (a_Ratio_raised : PySem.W.findIn K (.ref C_Ratio) "raised" = some (some (.ref f_Ratio_raised)))
    (i_Ratio_raised : PySem.W.isFn K (.ref f_Ratio_raised) = true)
    (l_Ratio_raised : K.lookup f_Ratio_raised = some ⟨oc_Ratio_raised, od_Ratio_raised, .func (PySem.W.fnOf "raised" "Ratio.raised" (defArgs s_Ratio_raised) (defBody s_Ratio_raised) (defScope s_Ratio_raised) .none kV_Ratio_raised dc_Ratio_raised pm_Ratio_raised an_Ratio_raised cd_Ratio_raised ct_Ratio_raised), sl_Ratio_raised⟩)
    (c_Ratio_raised : PySem.W.codeIn K cd_Ratio_raised "Ratio.raised" = true)
    (k_Ratio_raised : PySem.W.keepIn K (.ref f_Ratio_raised) = true)
    (a_Ratio_sign : PySem.W.findIn K (.ref C_Ratio) "sign" = some (some (.ref f_Ratio_sign)))
    (i_Ratio_sign : PySem.W.isFn K (.ref f_Ratio_sign) = true)
    (l_Ratio_sign : K.lookup f_Ratio_sign = some ⟨oc_Ratio_sign, od_Ratio_sign, .func (PySem.W.fnOf "sign" "Ratio.sign" (defArgs s_Ratio_sign) (defBody s_Ratio_sign) (defScope s_Ratio_sign) .none kV_Ratio_sign dc_Ratio_sign pm_Ratio_sign an_Ratio_sign cd_Ratio_sign ct_Ratio_sign), sl_Ratio_sign⟩)
    (c_Ratio_sign : PySem.W.codeIn K cd_Ratio_sign "Ratio.sign" = true)
    (k_Ratio_sign : PySem.W.keepIn K (.ref f_Ratio_sign) = true)
    (a_Ratio___add__ : PySem.W.findIn K (.ref C_Ratio) "__add__" = some (some (.ref f_Ratio___add__)))
    (i_Ratio___add__ : PySem.W.isFn K (.ref f_Ratio___add__) = true)
    (l_Ratio___add__ : K.lookup f_Ratio___add__ = some ⟨oc_Ratio___add__, od_Ratio___add__, .func (PySem.W.fnOf "__add__" "Ratio.__add__" (defArgs s_Ratio___add__) (defBody s_Ratio___add__) (defScope s_Ratio___add__) .none kV_Ratio___add__ dc_Ratio___add__ pm_Ratio___add__ an_Ratio___add__ cd_Ratio___add__ ct_Ratio___add__), sl_Ratio___add__⟩)
    (c_Ratio___add__ : PySem.W.codeIn K cd_Ratio___add__ "Ratio.__add__" = true)
    (k_Ratio___add__ : PySem.W.keepIn K (.ref f_Ratio___add__) = true)
    (a_Ratio___sub__ : PySem.W.findIn K (.ref C_Ratio) "__sub__" = some (some (.ref f_Ratio___sub__)))
    (i_Ratio___sub__ : PySem.W.isFn K (.ref f_Ratio___sub__) = true)
    (l_Ratio___sub__ : K.lookup f_Ratio___sub__ = some ⟨oc_Ratio___sub__, od_Ratio___sub__, .func (PySem.W.fnOf "__sub__" "Ratio.__sub__" (defArgs s_Ratio___sub__) (defBody s_Ratio___sub__) (defScope s_Ratio___sub__) .none kV_Ratio___sub__ dc_Ratio___sub__ pm_Ratio___sub__ an_Ratio___sub__ cd_Ratio___sub__ ct_Ratio___sub__), sl_Ratio___sub__⟩)
    (c_Ratio___sub__ : PySem.W.codeIn K cd_Ratio___sub__ "Ratio.__sub__" = true)
    (k_Ratio___sub__ : PySem.W.keepIn K (.ref f_Ratio___sub__) = true)
    (a_Ratio___mul__ : PySem.W.findIn K (.ref C_Ratio) "__mul__" = some (some (.ref f_Ratio___mul__)))
    (i_Ratio___mul__ : PySem.W.isFn K (.ref f_Ratio___mul__) = true)
    (l_Ratio___mul__ : K.lookup f_Ratio___mul__ = some ⟨oc_Ratio___mul__, od_Ratio___mul__, .func (PySem.W.fnOf "__mul__" "Ratio.__mul__" (defArgs s_Ratio___mul__) (defBody s_Ratio___mul__) (defScope s_Ratio___mul__) .none kV_Ratio___mul__ dc_Ratio___mul__ pm_Ratio___mul__ an_Ratio___mul__ cd_Ratio___mul__ ct_Ratio___mul__), sl_Ratio___mul__⟩)
    (c_Ratio___mul__ : PySem.W.codeIn K cd_Ratio___mul__ "Ratio.__mul__" = true)
    (k_Ratio___mul__ : PySem.W.keepIn K (.ref f_Ratio___mul__) = true)
    (a_Ratio___neg__ : PySem.W.findIn K (.ref C_Ratio) "__neg__" = some (some (.ref f_Ratio___neg__)))
    (i_Ratio___neg__ : PySem.W.isFn K (.ref f_Ratio___neg__) = true)
    (l_Ratio___neg__ : K.lookup f_Ratio___neg__ = some ⟨oc_Ratio___neg__, od_Ratio___neg__, .func (PySem.W.fnOf "__neg__" "Ratio.__neg__" (defArgs s_Ratio___neg__) (defBody s_Ratio___neg__) (defScope s_Ratio___neg__) .none kV_Ratio___neg__ dc_Ratio___neg__ pm_Ratio___neg__ an_Ratio___neg__ cd_Ratio___neg__ ct_Ratio___neg__), sl_Ratio___neg__⟩)
    (c_Ratio___neg__ : PySem.W.codeIn K cd_Ratio___neg__ "Ratio.__neg__" = true)
    (k_Ratio___neg__ : PySem.W.keepIn K (.ref f_Ratio___neg__) = true)
    (a_Ratio___abs__ : PySem.W.findIn K (.ref C_Ratio) "__abs__" = some (some (.ref f_Ratio___abs__)))
    (i_Ratio___abs__ : PySem.W.isFn K (.ref f_Ratio___abs__) = true)
    (l_Ratio___abs__ : K.lookup f_Ratio___abs__ = some ⟨oc_Ratio___abs__, od_Ratio___abs__, .func (PySem.W.fnOf "__abs__" "Ratio.__abs__" (defArgs s_Ratio___abs__) (defBody s_Ratio___abs__) (defScope s_Ratio___abs__) .none kV_Ratio___abs__ dc_Ratio___abs__ pm_Ratio___abs__ an_Ratio___abs__ cd_Ratio___abs__ ct_Ratio___abs__), sl_Ratio___abs__⟩)
    (c_Ratio___abs__ : PySem.W.codeIn K cd_Ratio___abs__ "Ratio.__abs__" = true)
    (k_Ratio___abs__ : PySem.W.keepIn K (.ref f_Ratio___abs__) = true)
    (a_Ratio___pow__ : PySem.W.findIn K (.ref C_Ratio) "__pow__" = some (some (.ref f_Ratio___pow__)))
    (i_Ratio___pow__ : PySem.W.isFn K (.ref f_Ratio___pow__) = true)
    (l_Ratio___pow__ : K.lookup f_Ratio___pow__ = some ⟨oc_Ratio___pow__, od_Ratio___pow__, .func (PySem.W.fnOf "__pow__" "Ratio.__pow__" (defArgs s_Ratio___pow__) (defBody s_Ratio___pow__) (defScope s_Ratio___pow__) .none kV_Ratio___pow__ dc_Ratio___pow__ pm_Ratio___pow__ an_Ratio___pow__ cd_Ratio___pow__ ct_Ratio___pow__), sl_Ratio___pow__⟩)
    (c_Ratio___pow__ : PySem.W.codeIn K cd_Ratio___pow__ "Ratio.__pow__" = true)
    (k_Ratio___pow__ : PySem.W.keepIn K (.ref f_Ratio___pow__) = true)
    (a__simplest_above_zero : PySem.W.nsIn K mainGlobals "_simplest_above_zero" = some (some (.ref f__simplest_above_zero)))
    (l__simplest_above_zero : K.lookup f__simplest_above_zero = some ⟨oc__simplest_above_zero, od__simplest_above_zero, .func (PySem.W.fnOf "_simplest_above_zero" "_simplest_above_zero" (defArgs s__simplest_above_zero) (defBody s__simplest_above_zero) (defScope s__simplest_above_zero) .none kV__simplest_above_zero dc__simplest_above_zero pm__simplest_above_zero an__simplest_above_zero cd__simplest_above_zero ct__simplest_above_zero), sl__simplest_above_zero⟩)
    (c__simplest_above_zero : PySem.W.codeIn K cd__simplest_above_zero "_simplest_above_zero" = true)
    (k__simplest_above_zero : PySem.W.keepIn K (.ref f__simplest_above_zero) = true)
    (a_simplest : PySem.W.nsIn K mainGlobals "simplest" = some (some (.ref f_simplest)))
    (l_simplest : K.lookup f_simplest = some ⟨oc_simplest, od_simplest, .func (PySem.W.fnOf "simplest" "simplest" (defArgs s_simplest) (defBody s_simplest) (defScope s_simplest) .none kV_simplest dc_simplest pm_simplest an_simplest cd_simplest ct_simplest), sl_simplest⟩)
    (c_simplest : PySem.W.codeIn K cd_simplest "simplest" = true)
    (k_simplest : PySem.W.keepIn K (.ref f_simplest) = true)
    (a__law_start : PySem.W.nsIn K mainGlobals "_law_start" = some (some (.ref f__law_start)))
    (l__law_start : K.lookup f__law_start = some ⟨oc__law_start, od__law_start, .func (PySem.W.fnOf "_law_start" "_law_start" (defArgs s__law_start) (defBody s__law_start) (defScope s__law_start) .none kV__law_start dc__law_start pm__law_start an__law_start cd__law_start ct__law_start), sl__law_start⟩)
    (c__law_start : PySem.W.codeIn K cd__law_start "_law_start" = true)
    (k__law_start : PySem.W.keepIn K (.ref f__law_start) = true)
    (a__law_digit : PySem.W.nsIn K mainGlobals "_law_digit" = some (some (.ref f__law_digit)))
    (l__law_digit : K.lookup f__law_digit = some ⟨oc__law_digit, od__law_digit, .func (PySem.W.fnOf "_law_digit" "_law_digit" (defArgs s__law_digit) (defBody s__law_digit) (defScope s__law_digit) .none kV__law_digit dc__law_digit pm__law_digit an__law_digit cd__law_digit ct__law_digit), sl__law_digit⟩)
    (c__law_digit : PySem.W.codeIn K cd__law_digit "_law_digit" = true)
    (k__law_digit : PySem.W.keepIn K (.ref f__law_digit) = true)
    (a__law_fraction : PySem.W.nsIn K mainGlobals "_law_fraction" = some (some (.ref f__law_fraction)))
    (l__law_fraction : K.lookup f__law_fraction = some ⟨oc__law_fraction, od__law_fraction, .func (PySem.W.fnOf "_law_fraction" "_law_fraction" (defArgs s__law_fraction) (defBody s__law_fraction) (defScope s__law_fraction) .none kV__law_fraction dc__law_fraction pm__law_fraction an__law_fraction cd__law_fraction ct__law_fraction), sl__law_fraction⟩)
    (c__law_fraction : PySem.W.codeIn K cd__law_fraction "_law_fraction" = true)
    (k__law_fraction : PySem.W.keepIn K (.ref f__law_fraction) = true)
    (a__law_handed : PySem.W.nsIn K mainGlobals "_law_handed" = some (some (.ref f__law_handed)))
    (l__law_handed : K.lookup f__law_handed = some ⟨oc__law_handed, od__law_handed, .func (PySem.W.fnOf "_law_handed" "_law_handed" (defArgs s__law_handed) (defBody s__law_handed) (defScope s__law_handed) .none kV__law_handed dc__law_handed pm__law_handed an__law_handed cd__law_handed ct__law_handed), sl__law_handed⟩)
    (c__law_handed : PySem.W.codeIn K cd__law_handed "_law_handed" = true)
    (k__law_handed : PySem.W.keepIn K (.ref f__law_handed) = true)
    (a__law_lowest : PySem.W.nsIn K mainGlobals "_law_lowest" = some (some (.ref f__law_lowest)))
    (l__law_lowest : K.lookup f__law_lowest = some ⟨oc__law_lowest, od__law_lowest, .func (PySem.W.fnOf "_law_lowest" "_law_lowest" (defArgs s__law_lowest) (defBody s__law_lowest) (defScope s__law_lowest) .none kV__law_lowest dc__law_lowest pm__law_lowest an__law_lowest cd__law_lowest ct__law_lowest), sl__law_lowest⟩)
    (c__law_lowest : PySem.W.codeIn K cd__law_lowest "_law_lowest" = true)
    (k__law_lowest : PySem.W.keepIn K (.ref f__law_lowest) = true)
    (a__law_plus : PySem.W.nsIn K mainGlobals "_law_plus" = some (some (.ref f__law_plus)))
    (l__law_plus : K.lookup f__law_plus = some ⟨oc__law_plus, od__law_plus, .func (PySem.W.fnOf "_law_plus" "_law_plus" (defArgs s__law_plus) (defBody s__law_plus) (defScope s__law_plus) .none kV__law_plus dc__law_plus pm__law_plus an__law_plus cd__law_plus ct__law_plus), sl__law_plus⟩)
    (c__law_plus : PySem.W.codeIn K cd__law_plus "_law_plus" = true)
    (k__law_plus : PySem.W.keepIn K (.ref f__law_plus) = true)
    (a__law_times : PySem.W.nsIn K mainGlobals "_law_times" = some (some (.ref f__law_times)))
    (l__law_times : K.lookup f__law_times = some ⟨oc__law_times, od__law_times, .func (PySem.W.fnOf "_law_times" "_law_times" (defArgs s__law_times) (defBody s__law_times) (defScope s__law_times) .none kV__law_times dc__law_times pm__law_times an__law_times cd__law_times ct__law_times), sl__law_times⟩)
    (c__law_times : PySem.W.codeIn K cd__law_times "_law_times" = true)
    (k__law_times : PySem.W.keepIn K (.ref f__law_times) = true)
    (a__law_is : PySem.W.nsIn K mainGlobals "_law_is" = some (some (.ref f__law_is)))
    (l__law_is : K.lookup f__law_is = some ⟨oc__law_is, od__law_is, .func (PySem.W.fnOf "_law_is" "_law_is" (defArgs s__law_is) (defBody s__law_is) (defScope s__law_is) .none kV__law_is dc__law_is pm__law_is an__law_is cd__law_is ct__law_is), sl__law_is⟩)
    (c__law_is : PySem.W.codeIn K cd__law_is "_law_is" = true)
    (k__law_is : PySem.W.keepIn K (.ref f__law_is) = true)
    (a__law_no_bottom : PySem.W.nsIn K mainGlobals "_law_no_bottom" = some (some (.ref f__law_no_bottom)))
    (l__law_no_bottom : K.lookup f__law_no_bottom = some ⟨oc__law_no_bottom, od__law_no_bottom, .func (PySem.W.fnOf "_law_no_bottom" "_law_no_bottom" (defArgs s__law_no_bottom) (defBody s__law_no_bottom) (defScope s__law_no_bottom) .none kV__law_no_bottom dc__law_no_bottom pm__law_no_bottom an__law_no_bottom cd__law_no_bottom ct__law_no_bottom), sl__law_no_bottom⟩)
    (c__law_no_bottom : PySem.W.codeIn K cd__law_no_bottom "_law_no_bottom" = true)
    (k__law_no_bottom : PySem.W.keepIn K (.ref f__law_no_bottom) = true)
    (a__law_no_quotient : PySem.W.nsIn K mainGlobals "_law_no_quotient" = some (some (.ref f__law_no_quotient)))
    (l__law_no_quotient : K.lookup f__law_no_quotient = some ⟨oc__law_no_quotient, od__law_no_quotient, .func (PySem.W.fnOf "_law_no_quotient" "_law_no_quotient" (defArgs s__law_no_quotient) (defBody s__law_no_quotient) (defScope s__law_no_quotient) .none kV__law_no_quotient dc__law_no_quotient pm__law_no_quotient an__law_no_quotient cd__law_no_quotient ct__law_no_quotient), sl__law_no_quotient⟩)
    (c__law_no_quotient : PySem.W.codeIn K cd__law_no_quotient "_law_no_quotient" = true)
    (k__law_no_quotient : PySem.W.keepIn K (.ref f__law_no_quotient) = true)
    (a__law_no_exponent : PySem.W.nsIn K mainGlobals "_law_no_exponent" = some (some (.ref f__law_no_exponent)))
    (l__law_no_exponent : K.lookup f__law_no_exponent = some ⟨oc__law_no_exponent, od__law_no_exponent, .func (PySem.W.fnOf "_law_no_exponent" "_law_no_exponent" (defArgs s__law_no_exponent) (defBody s__law_no_exponent) (defScope s__law_no_exponent) .none kV__law_no_exponent dc__law_no_exponent pm__law_no_exponent an__law_no_exponent cd__law_no_exponent ct__law_no_exponent), sl__law_no_exponent⟩)
    (c__law_no_exponent : PySem.W.codeIn K cd__law_no_exponent "_law_no_exponent" = true)
    (k__law_no_exponent : PySem.W.keepIn K (.ref f__law_no_exponent) = true)
    (a__law_four : PySem.W.nsIn K mainGlobals "_law_four" = some (some (.ref f__law_four)))
    (l__law_four : K.lookup f__law_four = some ⟨oc__law_four, od__law_four, .func (PySem.W.fnOf "_law_four" "_law_four" (defArgs s__law_four) (defBody s__law_four) (defScope s__law_four) .none kV__law_four dc__law_four pm__law_four an__law_four cd__law_four ct__law_four), sl__law_four⟩)
    (c__law_four : PySem.W.codeIn K cd__law_four "_law_four" = true)
    (k__law_four : PySem.W.keepIn K (.ref f__law_four) = true)
    (a__law_small_powers : PySem.W.nsIn K mainGlobals "_law_small_powers" = some (some (.ref f__law_small_powers)))
    (l__law_small_powers : K.lookup f__law_small_powers = some ⟨oc__law_small_powers, od__law_small_powers, .func (PySem.W.fnOf "_law_small_powers" "_law_small_powers" (defArgs s__law_small_powers) (defBody s__law_small_powers) (defScope s__law_small_powers) .none kV__law_small_powers dc__law_small_powers pm__law_small_powers an__law_small_powers cd__law_small_powers ct__law_small_powers), sl__law_small_powers⟩)
    (c__law_small_powers : PySem.W.codeIn K cd__law_small_powers "_law_small_powers" = true)
    (k__law_small_powers : PySem.W.keepIn K (.ref f__law_small_powers) = true)
    (a__law_drawn_power : PySem.W.nsIn K mainGlobals "_law_drawn_power" = some (some (.ref f__law_drawn_power)))
    (l__law_drawn_power : K.lookup f__law_drawn_power = some ⟨oc__law_drawn_power, od__law_drawn_power, .func (PySem.W.fnOf "_law_drawn_power" "_law_drawn_power" (defArgs s__law_drawn_power) (defBody s__law_drawn_power) (defScope s__law_drawn_power) .none kV__law_drawn_power dc__law_drawn_power pm__law_drawn_power an__law_drawn_power cd__law_drawn_power ct__law_drawn_power), sl__law_drawn_power⟩)
    (c__law_drawn_power : PySem.W.codeIn K cd__law_drawn_power "_law_drawn_power" = true)
    (k__law_drawn_power : PySem.W.keepIn K (.ref f__law_drawn_power) = true)
    (a__law_all_powers : PySem.W.nsIn K mainGlobals "_law_all_powers" = some (some (.ref f__law_all_powers)))
    (l__law_all_powers : K.lookup f__law_all_powers = some ⟨oc__law_all_powers, od__law_all_powers, .func (PySem.W.fnOf "_law_all_powers" "_law_all_powers" (defArgs s__law_all_powers) (defBody s__law_all_powers) (defScope s__law_all_powers) .none kV__law_all_powers dc__law_all_powers pm__law_all_powers an__law_all_powers cd__law_all_powers ct__law_all_powers), sl__law_all_powers⟩)
    (c__law_all_powers : PySem.W.codeIn K cd__law_all_powers "_law_all_powers" = true)
    (k__law_all_powers : PySem.W.keepIn K (.ref f__law_all_powers) = true)
    (a__law_great_powers : PySem.W.nsIn K mainGlobals "_law_great_powers" = some (some (.ref f__law_great_powers)))
    (l__law_great_powers : K.lookup f__law_great_powers = some ⟨oc__law_great_powers, od__law_great_powers, .func (PySem.W.fnOf "_law_great_powers" "_law_great_powers" (defArgs s__law_great_powers) (defBody s__law_great_powers) (defScope s__law_great_powers) .none kV__law_great_powers dc__law_great_powers pm__law_great_powers an__law_great_powers cd__law_great_powers ct__law_great_powers), sl__law_great_powers⟩)
    (c__law_great_powers : PySem.W.codeIn K cd__law_great_powers "_law_great_powers" = true)
    (k__law_great_powers : PySem.W.keepIn K (.ref f__law_great_powers) = true)
    (a__law_alone : PySem.W.nsIn K mainGlobals "_law_alone" = some (some (.ref f__law_alone)))
    (l__law_alone : K.lookup f__law_alone = some ⟨oc__law_alone, od__law_alone, .func (PySem.W.fnOf "_law_alone" "_law_alone" (defArgs s__law_alone) (defBody s__law_alone) (defScope s__law_alone) .none kV__law_alone dc__law_alone pm__law_alone an__law_alone cd__law_alone ct__law_alone), sl__law_alone⟩)
    (c__law_alone : PySem.W.codeIn K cd__law_alone "_law_alone" = true)
    (k__law_alone : PySem.W.keepIn K (.ref f__law_alone) = true)
    (a__law_long_four : PySem.W.nsIn K mainGlobals "_law_long_four" = some (some (.ref f__law_long_four)))
    (l__law_long_four : K.lookup f__law_long_four = some ⟨oc__law_long_four, od__law_long_four, .func (PySem.W.fnOf "_law_long_four" "_law_long_four" (defArgs s__law_long_four) (defBody s__law_long_four) (defScope s__law_long_four) .none kV__law_long_four dc__law_long_four pm__law_long_four an__law_long_four cd__law_long_four ct__law_long_four), sl__law_long_four⟩)
    (c__law_long_four : PySem.W.codeIn K cd__law_long_four "_law_long_four" = true)
    (k__law_long_four : PySem.W.keepIn K (.ref f__law_long_four) = true)
    (a__law_long_order : PySem.W.nsIn K mainGlobals "_law_long_order" = some (some (.ref f__law_long_order)))
    (l__law_long_order : K.lookup f__law_long_order = some ⟨oc__law_long_order, od__law_long_order, .func (PySem.W.fnOf "_law_long_order" "_law_long_order" (defArgs s__law_long_order) (defBody s__law_long_order) (defScope s__law_long_order) .none kV__law_long_order dc__law_long_order pm__law_long_order an__law_long_order cd__law_long_order ct__law_long_order), sl__law_long_order⟩)
    (c__law_long_order : PySem.W.codeIn K cd__law_long_order "_law_long_order" = true)
    (k__law_long_order : PySem.W.keepIn K (.ref f__law_long_order) = true)
    (a__law_long : PySem.W.nsIn K mainGlobals "_law_long" = some (some (.ref f__law_long)))
    (l__law_long : K.lookup f__law_long = some ⟨oc__law_long, od__law_long, .func (PySem.W.fnOf "_law_long" "_law_long" (defArgs s__law_long) (defBody s__law_long) (defScope s__law_long) .none kV__law_long dc__law_long pm__law_long an__law_long cd__law_long ct__law_long), sl__law_long⟩)
    (c__law_long : PySem.W.codeIn K cd__law_long "_law_long" = true)
    (k__law_long : PySem.W.keepIn K (.ref f__law_long) = true)
    (a_law : PySem.W.nsIn K mainGlobals "law" = some (some (.ref f_law)))
    (l_law : K.lookup f_law = some ⟨oc_law, od_law, .func (PySem.W.fnOf "law" "law" (defArgs s_law) (defBody s_law) (defScope s_law) .none kV_law dc_law pm_law an_law cd_law ct_law), sl_law⟩)
    (c_law : PySem.W.codeIn K cd_law "law" = true)
    (k_law : PySem.W.keepIn K (.ref f_law) = true)
    (a_OutOfBounds___init__ : PySem.W.findIn K (.ref C_OutOfBounds) "__init__" = some (some (.ref f_OutOfBounds___init__)))
    (i_OutOfBounds___init__ : PySem.W.typeIn K (.ref f_OutOfBounds___init__) = some (.type "function"))
    (l_OutOfBounds___init__ : K.lookup f_OutOfBounds___init__ = some ⟨oc_OutOfBounds___init__, od_OutOfBounds___init__, .func (PySem.W.fnOf "__init__" "OutOfBounds.__init__" (defArgs s_OutOfBounds___init__) (defBody s_OutOfBounds___init__) (defScope s_OutOfBounds___init__) .none kV_OutOfBounds___init__ dc_OutOfBounds___init__ pm_OutOfBounds___init__ an_OutOfBounds___init__ cd_OutOfBounds___init__ ct_OutOfBounds___init__), sl_OutOfBounds___init__⟩)
    (c_OutOfBounds___init__ : PySem.W.codeIn K cd_OutOfBounds___init__ "OutOfBounds.__init__" = true)
    (k_OutOfBounds___init__ : PySem.W.keepIn K (.ref f_OutOfBounds___init__) = true)
    (rp_Ratio : PySem.W.findIn K (.ref C_Ratio) "__rpow__" = some none)
    (sI_Ratio : PySem.W.subIn K (.type "int") (.ref C_Ratio) = some false)
    (z_abs : PySem.W.nsIn K mainGlobals "abs" = some none)
    (z_len : PySem.W.nsIn K mainGlobals "len" = some none)
    (z_int : PySem.W.nsIn K mainGlobals "int" = some none)
    (z_bool : PySem.W.nsIn K mainGlobals "bool" = some none)
    (z_range : PySem.W.nsIn K mainGlobals "range" = some none)
    (z_isinstance : PySem.W.nsIn K mainGlobals "isinstance" = some none)
    (z_ValueError : PySem.W.nsIn K mainGlobals "ValueError" = some none)
    (v_gcd : PySem.W.nsIn K mainGlobals "gcd" = some (some (.builtin "math.gcd")))
    (v_MOST_EXPONENT : PySem.W.nsIn K mainGlobals "MOST_EXPONENT" = some (some (Value.int 64 tk_MOST_EXPONENT)))
-/
open PySem PySem.W PyProof.Rows
set_option maxRecDepth 100000 in
set_option maxHeartbeats 0 in
theorem PySem.Challenge.cw_fewcarry_k01_fraction_arithmetic_holds : PySem.Challenge.rw_fewcarry_k01_fraction_arithmetic.Holds := by
  w_on; o_law; k_head; (case hw => w_witness2)
  k_fill
  refine DL.walkB (l := PySem.Challenge.rw_fewcarry_k01_fraction_arithmetic) (k := 7) (x := "script") rfl rfl ⟨rfl, by decide, by decide⟩ (fun w h Y => PySem.W.kIn_of Y) ?F
  case F =>
    intro w mg fa h KX G hmg
    refine' K01.all_mk KX G hmg ?a_Ratio ?pg_Ratio ?hd_Ratio ?po_Ratio ?sa_Ratio ?mk_Ratio ?sf_Ratio ?kc_Ratio ?ha_Ratio ?mo_Ratio ?is_Ratio ?su_Ratio ?ty_Ratio ?no_top_Ratio ?no_bottom_Ratio ?a_ZeroBottom ?xi_ZeroBottom ?ex_ZeroBottom ?ty_ZeroBottom ?kc_ZeroBottom ?ga_ZeroBottom ?gg_ZeroBottom ?hd_ZeroBottom ?ha_ZeroBottom ?mo_ZeroBottom ?is_ZeroBottom ?su_ZeroBottom ?a_OutOfBounds ?l_OutOfBounds ?rf_OutOfBounds ?sa_OutOfBounds ?ex_OutOfBounds ?ty_OutOfBounds ?kc_OutOfBounds ?ga_OutOfBounds ?gg_OutOfBounds ?hd_OutOfBounds ?ha_OutOfBounds ?mo_OutOfBounds ?is_OutOfBounds ?su_OutOfBounds ?no_value_OutOfBounds ?a_CarryError ?ex_CarryError ?ty_CarryError ?hd_CarryError ?is_CarryError ?su_ZeroBottom_OutOfBounds ?su_OutOfBounds_ZeroBottom ?su_ZeroBottom_CarryError ?su_OutOfBounds_CarryError ?sT_ZeroBottom_ValueError ?sT_OutOfBounds_ValueError ?gs ?gt ?a_Ratio___init__ ?i_Ratio___init__ ?l_Ratio___init__ ?lT_Ratio___init__ ?c_Ratio___init__ ?k_Ratio___init__ ?a_Ratio_compare ?i_Ratio_compare ?l_Ratio_compare ?c_Ratio_compare ?k_Ratio_compare ?a_Ratio_divided ?i_Ratio_divided ?l_Ratio_divided ?c_Ratio_divided ?k_Ratio_divided ?a_Ratio_rounded_down ?i_Ratio_rounded_down ?l_Ratio_rounded_down ?c_Ratio_rounded_down ?k_Ratio_rounded_down ?a_Ratio_rounded_up ?i_Ratio_rounded_up ?l_Ratio_rounded_up ?c_Ratio_rounded_up ?k_Ratio_rounded_up ?a_Ratio_raised ?i_Ratio_raised ?l_Ratio_raised ?c_Ratio_raised ?k_Ratio_raised ?a_Ratio_sign ?i_Ratio_sign ?l_Ratio_sign ?c_Ratio_sign ?k_Ratio_sign ?a_Ratio___add__ ?i_Ratio___add__ ?l_Ratio___add__ ?c_Ratio___add__ ?k_Ratio___add__ ?a_Ratio___sub__ ?i_Ratio___sub__ ?l_Ratio___sub__ ?c_Ratio___sub__ ?k_Ratio___sub__ ?a_Ratio___mul__ ?i_Ratio___mul__ ?l_Ratio___mul__ ?c_Ratio___mul__ ?k_Ratio___mul__ ?a_Ratio___neg__ ?i_Ratio___neg__ ?l_Ratio___neg__ ?c_Ratio___neg__ ?k_Ratio___neg__ ?a_Ratio___abs__ ?i_Ratio___abs__ ?l_Ratio___abs__ ?c_Ratio___abs__ ?k_Ratio___abs__ ?a_Ratio___pow__ ?i_Ratio___pow__ ?l_Ratio___pow__ ?c_Ratio___pow__ ?k_Ratio___pow__ ?a__simplest_above_zero ?l__simplest_above_zero ?c__simplest_above_zero ?k__simplest_above_zero ?a_simplest ?l_simplest ?c_simplest ?k_simplest ?a__law_start ?l__law_start ?c__law_start ?k__law_start ?a__law_digit ?l__law_digit ?c__law_digit ?k__law_digit ?a__law_fraction ?l__law_fraction ?c__law_fraction ?k__law_fraction ?a__law_handed ?l__law_handed ?c__law_handed ?k__law_handed ?a__law_lowest ?l__law_lowest ?c__law_lowest ?k__law_lowest ?a__law_plus ?l__law_plus ?c__law_plus ?k__law_plus ?a__law_times ?l__law_times ?c__law_times ?k__law_times ?a__law_is ?l__law_is ?c__law_is ?k__law_is ?a__law_no_bottom ?l__law_no_bottom ?c__law_no_bottom ?k__law_no_bottom ?a__law_no_quotient ?l__law_no_quotient ?c__law_no_quotient ?k__law_no_quotient ?a__law_no_exponent ?l__law_no_exponent ?c__law_no_exponent ?k__law_no_exponent ?a__law_four ?l__law_four ?c__law_four ?k__law_four ?a__law_small_powers ?l__law_small_powers ?c__law_small_powers ?k__law_small_powers ?a__law_drawn_power ?l__law_drawn_power ?c__law_drawn_power ?k__law_drawn_power ?a__law_all_powers ?l__law_all_powers ?c__law_all_powers ?k__law_all_powers ?a__law_great_powers ?l__law_great_powers ?c__law_great_powers ?k__law_great_powers ?a__law_alone ?l__law_alone ?c__law_alone ?k__law_alone ?a__law_long_four ?l__law_long_four ?c__law_long_four ?k__law_long_four ?a__law_long_order ?l__law_long_order ?c__law_long_order ?k__law_long_order ?a__law_long ?l__law_long ?c__law_long ?k__law_long ?a_law ?l_law ?c_law ?k_law ?a_OutOfBounds___init__ ?i_OutOfBounds___init__ ?l_OutOfBounds___init__ ?c_OutOfBounds___init__ ?k_OutOfBounds___init__ ?rp_Ratio ?sI_Ratio ?z_abs ?z_len ?z_int ?z_bool ?z_range ?z_isinstance ?z_ValueError ?v_gcd ?v_MOST_EXPONENT
    (case a_Ratio => k_is)
    (case pg_Ratio => k_is)
    (case hd_Ratio => k_is)
    (case po_Ratio => k_is)
    (case sa_Ratio => k_is)
    (case mk_Ratio => k_is)
    (case sf_Ratio => k_is)
    (case kc_Ratio => k_is)
    (case ha_Ratio => k_is)
    (case mo_Ratio => k_is)
    (case is_Ratio => k_is)
    (case su_Ratio => k_is)
    (case ty_Ratio => k_is)
    (case no_top_Ratio => k_is)
    (case no_bottom_Ratio => k_is)
    (case a_ZeroBottom => k_is)
    (case xi_ZeroBottom => k_exc)
    (case ex_ZeroBottom => k_is)
    (case ty_ZeroBottom => k_is)
    (case kc_ZeroBottom => k_is)
    (case ga_ZeroBottom => k_is)
    (case gg_ZeroBottom => k_is)
    (case hd_ZeroBottom => k_is)
    (case ha_ZeroBottom => k_is)
    (case mo_ZeroBottom => k_is)
    (case is_ZeroBottom => k_is)
    (case su_ZeroBottom => k_is)
    (case a_OutOfBounds => k_is)
    (case l_OutOfBounds => k_is)
    (case rf_OutOfBounds => decide +kernel)
    (case sa_OutOfBounds => k_is)
    (case ex_OutOfBounds => k_is)
    (case ty_OutOfBounds => k_is)
    (case kc_OutOfBounds => k_is)
    (case ga_OutOfBounds => k_is)
    (case gg_OutOfBounds => k_is)
    (case hd_OutOfBounds => k_is)
    (case ha_OutOfBounds => k_is)
    (case mo_OutOfBounds => k_is)
    (case is_OutOfBounds => k_is)
    (case su_OutOfBounds => k_is)
    (case no_value_OutOfBounds => k_is)
    (case a_CarryError => k_is)
    (case ex_CarryError => k_is)
    (case ty_CarryError => k_is)
    (case hd_CarryError => k_is)
    (case is_CarryError => k_is)
    (case su_ZeroBottom_OutOfBounds => k_is)
    (case su_OutOfBounds_ZeroBottom => k_is)
    (case su_ZeroBottom_CarryError => k_is)
    (case su_OutOfBounds_CarryError => k_is)
    (case sT_ZeroBottom_ValueError => k_is)
    (case sT_OutOfBounds_ValueError => k_is)
    (case gs => k_is)
    (case gt => k_is)
    (case a_Ratio___init__ => k_is)
    (case i_Ratio___init__ => k_is)
    (case l_Ratio___init__ => k_is)
    (case lT_Ratio___init__ => k_is)
    (case c_Ratio___init__ => k_is)
    (case k_Ratio___init__ => k_is)
    (case a_Ratio_compare => k_is)
    (case i_Ratio_compare => k_is)
    (case l_Ratio_compare => k_is)
    (case c_Ratio_compare => k_is)
    (case k_Ratio_compare => k_is)
    (case a_Ratio_divided => k_is)
    (case i_Ratio_divided => k_is)
    (case l_Ratio_divided => k_is)
    (case c_Ratio_divided => k_is)
    (case k_Ratio_divided => k_is)
    (case a_Ratio_rounded_down => k_is)
    (case i_Ratio_rounded_down => k_is)
    (case l_Ratio_rounded_down => k_is)
    (case c_Ratio_rounded_down => k_is)
    (case k_Ratio_rounded_down => k_is)
    (case a_Ratio_rounded_up => k_is)
    (case i_Ratio_rounded_up => k_is)
    (case l_Ratio_rounded_up => k_is)
    (case c_Ratio_rounded_up => k_is)
    (case k_Ratio_rounded_up => k_is)
    (case a_Ratio_raised => k_is)
    (case i_Ratio_raised => k_is)
    (case l_Ratio_raised => k_is)
    (case c_Ratio_raised => k_is)
    (case k_Ratio_raised => k_is)
    (case a_Ratio_sign => k_is)
    (case i_Ratio_sign => k_is)
    (case l_Ratio_sign => k_is)
    (case c_Ratio_sign => k_is)
    (case k_Ratio_sign => k_is)
    (case a_Ratio___add__ => k_is)
    (case i_Ratio___add__ => k_is)
    (case l_Ratio___add__ => k_is)
    (case c_Ratio___add__ => k_is)
    (case k_Ratio___add__ => k_is)
    (case a_Ratio___sub__ => k_is)
    (case i_Ratio___sub__ => k_is)
    (case l_Ratio___sub__ => k_is)
    (case c_Ratio___sub__ => k_is)
    (case k_Ratio___sub__ => k_is)
    (case a_Ratio___mul__ => k_is)
    (case i_Ratio___mul__ => k_is)
    (case l_Ratio___mul__ => k_is)
    (case c_Ratio___mul__ => k_is)
    (case k_Ratio___mul__ => k_is)
    (case a_Ratio___neg__ => k_is)
    (case i_Ratio___neg__ => k_is)
    (case l_Ratio___neg__ => k_is)
    (case c_Ratio___neg__ => k_is)
    (case k_Ratio___neg__ => k_is)
    (case a_Ratio___abs__ => k_is)
    (case i_Ratio___abs__ => k_is)
    (case l_Ratio___abs__ => k_is)
    (case c_Ratio___abs__ => k_is)
    (case k_Ratio___abs__ => k_is)
    (case a_Ratio___pow__ => k_is)
    (case i_Ratio___pow__ => k_is)
    (case l_Ratio___pow__ => k_is)
    (case c_Ratio___pow__ => k_is)
    (case k_Ratio___pow__ => k_is)
    (case a__simplest_above_zero => k_is)
    (case l__simplest_above_zero => k_is)
    (case c__simplest_above_zero => k_is)
    (case k__simplest_above_zero => k_is)
    (case a_simplest => k_is)
    (case l_simplest => k_is)
    (case c_simplest => k_is)
    (case k_simplest => k_is)
    (case a__law_start => k_is)
    (case l__law_start => k_is)
    (case c__law_start => k_is)
    (case k__law_start => k_is)
    (case a__law_digit => k_is)
    (case l__law_digit => k_is)
    (case c__law_digit => k_is)
    (case k__law_digit => k_is)
    (case a__law_fraction => k_is)
    (case l__law_fraction => k_is)
    (case c__law_fraction => k_is)
    (case k__law_fraction => k_is)
    (case a__law_handed => k_is)
    (case l__law_handed => k_is)
    (case c__law_handed => k_is)
    (case k__law_handed => k_is)
    (case a__law_lowest => k_is)
    (case l__law_lowest => k_is)
    (case c__law_lowest => k_is)
    (case k__law_lowest => k_is)
    (case a__law_plus => k_is)
    (case l__law_plus => k_is)
    (case c__law_plus => k_is)
    (case k__law_plus => k_is)
    (case a__law_times => k_is)
    (case l__law_times => k_is)
    (case c__law_times => k_is)
    (case k__law_times => k_is)
    (case a__law_is => k_is)
    (case l__law_is => k_is)
    (case c__law_is => k_is)
    (case k__law_is => k_is)
    (case a__law_no_bottom => k_is)
    (case l__law_no_bottom => k_is)
    (case c__law_no_bottom => k_is)
    (case k__law_no_bottom => k_is)
    (case a__law_no_quotient => k_is)
    (case l__law_no_quotient => k_is)
    (case c__law_no_quotient => k_is)
    (case k__law_no_quotient => k_is)
    (case a__law_no_exponent => k_is)
    (case l__law_no_exponent => k_is)
    (case c__law_no_exponent => k_is)
    (case k__law_no_exponent => k_is)
    (case a__law_four => k_is)
    (case l__law_four => k_is)
    (case c__law_four => k_is)
    (case k__law_four => k_is)
    (case a__law_small_powers => k_is)
    (case l__law_small_powers => k_is)
    (case c__law_small_powers => k_is)
    (case k__law_small_powers => k_is)
    (case a__law_drawn_power => k_is)
    (case l__law_drawn_power => k_is)
    (case c__law_drawn_power => k_is)
    (case k__law_drawn_power => k_is)
    (case a__law_all_powers => k_is)
    (case l__law_all_powers => k_is)
    (case c__law_all_powers => k_is)
    (case k__law_all_powers => k_is)
    (case a__law_great_powers => k_is)
    (case l__law_great_powers => k_is)
    (case c__law_great_powers => k_is)
    (case k__law_great_powers => k_is)
    (case a__law_alone => k_is)
    (case l__law_alone => k_is)
    (case c__law_alone => k_is)
    (case k__law_alone => k_is)
    (case a__law_long_four => k_is)
    (case l__law_long_four => k_is)
    (case c__law_long_four => k_is)
    (case k__law_long_four => k_is)
    (case a__law_long_order => k_is)
    (case l__law_long_order => k_is)
    (case c__law_long_order => k_is)
    (case k__law_long_order => k_is)
    (case a__law_long => k_is)
    (case l__law_long => k_is)
    (case c__law_long => k_is)
    (case k__law_long => k_is)
    (case a_law => k_is)
    (case l_law => k_is)
    (case c_law => k_is)
    (case k_law => k_is)
    (case a_OutOfBounds___init__ => k_is)
    (case i_OutOfBounds___init__ => k_is)
    (case l_OutOfBounds___init__ => k_is)
    (case c_OutOfBounds___init__ => k_is)
    (case k_OutOfBounds___init__ => k_is)
    (case rp_Ratio => k_is)
    (case sI_Ratio => k_is)
    (case z_abs => k_is)
    (case z_len => k_is)
    (case z_int => k_is)
    (case z_bool => k_is)
    (case z_range => k_is)
    (case z_isinstance => k_is)
    (case z_ValueError => k_is)
    (case v_gcd => k_is)
    (case v_MOST_EXPONENT => k_is)
