import PyProof.Rows.All
import Wide.All
import OpenK.AllK
import Wide.FinOn
import HandS.ForMost
import HandS.ForExc
import HandS.ExcInit
import HandS.CallSlots
import HandS.Wide
import HandS.Style
import HandS.IsInst
import HandS.Comp
import HandS.Gcd
import HandS.ExcCtx
import HandS.HotCalls
import HandS.Defaults
import HandS.ExcField
import HandS.EndBits
import KE.KExcIs
import HandS.ExcIs
import HandS.OwnEq
import PyProof.P3Eq
import HandS.ClsMeth
import PyProof.FitsInt
import KE.KOpsOwn
import HandS.SetFor
import HandS.WideBits
import PyProof.Rows.RuleN_abs
import HandS.Zip
import PySem.Challenge.RW_fewcarry_k10_columns_and_mixtures
import HandS.Star
import HandS.Deep
set_option Elab.async false
set_option linter.all false
set_option maxRecDepth 100000
/-! DL1: values as trees (D), what lies mutable (Mu), and what a reading of the hand layer does to them. -/
namespace DL
open PySem PySem.Spec L2
open PyProof.Rows hiding St

inductive D where
  | non | bl (b : Bool) | int (i : Int) | str (x : Str) | ty (n : String) | ref (a : Addr)
  | tup (xs : List D) | lst (xs : List D) | dic (kvs : List (Key × D)) | ins (C : Addr) (ns : List Str) (ds : List D)
  /-- a caught exception: where it stands, its own dict, its class, its fields -/
  | exc (a : Addr) (dd : Option Addr) (C : Addr) (ns : List Str) (ds : List D)

/-- a mutable object that stands at an address -/
inductive MO where
  | lst (xs : List D) | dic (kvs : List (Key × D)) | ins (C : Addr) (ns : List Str) (ds : List D)
abbrev Mu := List (Addr × MO)
def dom (m : Mu) (a : Addr) : Prop := a ∈ m.map (·.1)
theorem dom_nil {a : Addr} : ¬ dom [] a := fun h => by simp [dom] at h
theorem dom_cons {m : Mu} {p : Addr × MO} {a : Addr} : dom (p :: m) a ↔ a = p.1 ∨ dom m a := by simp [dom]

mutual
inductive Rep (M : Addr → Prop) (H : Hp) : D → V → Prop
  | non : Rep M H .non .non
  | bl (b : Bool) : Rep M H (.bl b) (.bl b)
  | int (i : Int) : Rep M H (.int i) (.int i)
  | str (x : Str) : Rep M H (.str x) (.str x)
  | ty (n : String) : Rep M H (.ty n) (.ty n)
  | ref (a : Addr) : Rep M H (.ref a) (.ref a)
  | tup {a : Addr} {xs : List D} {vs : List V} (m : ¬ M a) (h : Rd H a (.tup vs)) (r : Reps M H xs vs) : Rep M H (.tup xs) (.ref a)
  | lst {a : Addr} {xs : List D} {vs : List V} (m : ¬ M a) (h : Rd H a (.lst vs)) (r : Reps M H xs vs) : Rep M H (.lst xs) (.ref a)
  | dic {a : Addr} {kvs : List (Key × D)} {kws : List (Key × V)} (m : ¬ M a) (h : H a = some (.dK kws)) (r : RepK M H kvs kws) : Rep M H (.dic kvs) (.ref a)
  | ins {a C dx : Addr} {ns : List Str} {ds : List D} {gs : List (Str × V)} (m : ¬ M a) (h : H a = some (.ins C dx gs)) (r : RepF M H ns ds gs) : Rep M H (.ins C ns ds) (.ref a)
  | excN {a C : Addr} : Rep M H (.exc a none C [] []) (.ref a)
  | excS {a d C : Addr} {ns : List Str} {ds : List D} {gs : List (Str × V)} (m : ¬ M d) (h : H d = some (.xd gs)) (r : RepF M H ns ds gs) : Rep M H (.exc a (some d) C ns ds) (.ref a)
inductive Reps (M : Addr → Prop) (H : Hp) : List D → List V → Prop
  | nil : Reps M H [] []
  | cons {d : D} {v : V} {ds : List D} {vs : List V} (r : Rep M H d v) (t : Reps M H ds vs) : Reps M H (d :: ds) (v :: vs)
inductive RepK (M : Addr → Prop) (H : Hp) : List (Key × D) → List (Key × V) → Prop
  | nil : RepK M H [] []
  | cons {k : Key} {d : D} {v : V} {ds : List (Key × D)} {vs : List (Key × V)} (r : Rep M H d v) (t : RepK M H ds vs) : RepK M H ((k, d) :: ds) ((k, v) :: vs)
inductive RepF (M : Addr → Prop) (H : Hp) : List Str → List D → List (Str × V) → Prop
  | nil : RepF M H [] [] []
  | cons {n : Str} {d : D} {v : V} {ns : List Str} {ds : List D} {vs : List (Str × V)} (r : Rep M H d v) (t : RepF M H ns ds vs) : RepF M H (n :: ns) (d :: ds) ((n, v) :: vs)
end

/-- from M, H to M', H': what was fixed is fixed and as it was -/
def Stp (M : Addr → Prop) (H : Hp) (M' : Addr → Prop) (H' : Hp) : Prop := ∀ a o, H a = some o → ¬ M a → H' a = some o ∧ ¬ M' a
theorem Stp.refl (M : Addr → Prop) (H : Hp) : Stp M H M H := fun _ _ h m => ⟨h, m⟩
theorem Stp.trans {M M1 M2 : Addr → Prop} {H H1 H2 : Hp} (a : Stp M H M1 H1) (b : Stp M1 H1 M2 H2) : Stp M H M2 H2 := fun x o h m => b x o (a x o h m).1 (a x o h m).2
theorem Stp.rd {M M' : Addr → Prop} {H H' : Hp} (s : Stp M H M' H') {a : Addr} {u : HO} (m : ¬ M a) (h : Rd H a u) : Rd H' a u ∧ ¬ M' a := by
  rcases h with h | ⟨o, h⟩
  · exact ⟨.inl (s a _ h m).1, (s a _ h m).2⟩
  · exact ⟨.inr ⟨o, (s a _ h m).1⟩, (s a _ h m).2⟩
/-- a new object is laid (fixed) -/
theorem Stp.new {M : Addr → Prop} {H : Hp} {p : Addr} {o : HO} (n : H p = none) : Stp M H M (upd H p o) := fun a u h m => ⟨by rw [upd_ne (ne_of_none h n)]; exact h, m⟩
/-- .. mutable -/
theorem Stp.newM {m : Mu} {H : Hp} {p : Addr} {o : HO} {x : MO} (n : H p = none) : Stp (dom m) H (dom ((p, x) :: m)) (upd H p o) := fun a u h k =>
  ⟨by rw [upd_ne (ne_of_none h n)]; exact h, fun z => (dom_cons.mp z).elim (ne_of_none h n) k⟩
/-- a mutable one is written -/
theorem Stp.wr {m m' : Mu} {H : Hp} {p : Addr} {o : HO} (hp : dom m p) (hd : ∀ a, dom m' a → dom m a) : Stp (dom m) H (dom m') (upd H p o) := fun a u h k =>
  ⟨by rw [upd_ne (fun e => k (by rw [e]; exact hp))]; exact h, fun z => k (hd a z)⟩
theorem Stp.less {M M' : Addr → Prop} {H : Hp} (h : ∀ a, M' a → M a) : Stp M H M' H := fun a _ e m => ⟨e, fun z => m (h a z)⟩

mutual
theorem Rep.mono {M M' : Addr → Prop} {H H' : Hp} (s : Stp M H M' H') : ∀ {d : D} {v : V}, Rep M H d v → Rep M' H' d v
  | _, _, .non => .non
  | _, _, .bl b => .bl b
  | _, _, .int i => .int i
  | _, _, .str x => .str x
  | _, _, .ty n => .ty n
  | _, _, .ref a => .ref a
  | _, _, .tup m h r => .tup (s.rd m h).2 (s.rd m h).1 (Reps.mono s r)
  | _, _, .lst m h r => .lst (s.rd m h).2 (s.rd m h).1 (Reps.mono s r)
  | _, _, .dic m h r => .dic (s _ _ h m).2 (s _ _ h m).1 (RepK.mono s r)
  | _, _, .ins m h r => .ins (s _ _ h m).2 (s _ _ h m).1 (RepF.mono s r)
  | _, _, .excN => .excN
  | _, _, .excS m h r => .excS (s _ _ h m).2 (s _ _ h m).1 (RepF.mono s r)
theorem Reps.mono {M M' : Addr → Prop} {H H' : Hp} (s : Stp M H M' H') : ∀ {d : List D} {v : List V}, Reps M H d v → Reps M' H' d v
  | _, _, .nil => .nil
  | _, _, .cons r t => .cons (Rep.mono s r) (Reps.mono s t)
theorem RepK.mono {M M' : Addr → Prop} {H H' : Hp} (s : Stp M H M' H') : ∀ {d : List (Key × D)} {v : List (Key × V)}, RepK M H d v → RepK M' H' d v
  | _, _, .nil => .nil
  | _, _, .cons r t => .cons (Rep.mono s r) (RepK.mono s t)
theorem RepF.mono {M M' : Addr → Prop} {H H' : Hp} (s : Stp M H M' H') : ∀ {n : List Str} {d : List D} {v : List (Str × V)}, RepF M H n d v → RepF M' H' n d v
  | _, _, _, .nil => .nil
  | _, _, _, .cons r t => .cons (Rep.mono s r) (RepF.mono s t)
end

theorem Reps.length {M : Addr → Prop} {H : Hp} : ∀ {d : List D} {v : List V}, Reps M H d v → d.length = v.length
  | _, _, .nil => rfl
  | _, _, .cons _ t => congrArg (· + 1) (Reps.length t)
theorem Reps.get {M : Addr → Prop} {H : Hp} : ∀ {d : List D} {v : List V} {i : Nat} {x : D}, Reps M H d v → d[i]? = some x → ∃ y, v[i]? = some y ∧ Rep M H x y
  | _, _, _, _, .nil, e => by simp at e
  | _, _, 0, _, .cons r _, e => by simp at e; subst e; exact ⟨_, rfl, r⟩
  | _, _, i + 1, x, .cons _ t, e => by
    obtain ⟨y, h1, h2⟩ := Reps.get (i := i) (x := x) t (by simpa using e)
    exact ⟨y, by simpa using h1, h2⟩
theorem Reps.getV {M : Addr → Prop} {H : Hp} : ∀ {d : List D} {v : List V} {i : Nat} {y : V}, Reps M H d v → v[i]? = some y → ∃ x, d[i]? = some x ∧ Rep M H x y
  | _, _, _, _, .nil, e => by simp at e
  | _, _, 0, _, .cons r _, e => by simp at e; subst e; exact ⟨_, rfl, r⟩
  | _, _, i + 1, y, .cons _ t, e => by
    obtain ⟨x, h1, h2⟩ := Reps.getV (i := i) (y := y) t (by simpa using e)
    exact ⟨x, by simpa using h1, h2⟩
theorem Reps.append {M : Addr → Prop} {H : Hp} : ∀ {d d' : List D} {v v' : List V}, Reps M H d v → Reps M H d' v' → Reps M H (d ++ d') (v ++ v')
  | _, _, _, _, .nil, h => h
  | _, _, _, _, .cons r t, h => .cons r (Reps.append t h)
theorem Reps.set {M : Addr → Prop} {H : Hp} {x : D} {y : V} (q : Rep M H x y) : ∀ {d : List D} {v : List V} (i : Nat), Reps M H d v → Reps M H (d.set i x) (v.set i y)
  | _, _, _, .nil => .nil
  | _, _, 0, .cons _ t => .cons q t
  | _, _, i + 1, .cons r t => .cons r (Reps.set q i t)
theorem Reps.drop {M : Addr → Prop} {H : Hp} : ∀ {d : List D} {v : List V} (n : Nat), Reps M H d v → Reps M H (d.drop n) (v.drop n)
  | _, _, 0, h => h
  | _, _, _ + 1, .nil => .nil
  | _, _, n + 1, .cons _ t => Reps.drop n t
theorem Reps.take {M : Addr → Prop} {H : Hp} : ∀ {d : List D} {v : List V} (n : Nat), Reps M H d v → Reps M H (d.take n) (v.take n)
  | _, _, 0, _ => .nil
  | _, _, _ + 1, .nil => .nil
  | _, _, n + 1, .cons r t => .cons r (Reps.take n t)
theorem Reps.ints {M : Addr → Prop} {H : Hp} : ∀ (l : List Int), Reps M H (l.map D.int) (l.map V.int)
  | [] => .nil
  | i :: l => .cons (.int i) (Reps.ints l)
theorem RepF.names {M : Addr → Prop} {H : Hp} : ∀ {n : List Str} {d : List D} {v : List (Str × V)}, RepF M H n d v → v.map (·.1) = n
  | _, _, _, .nil => rfl
  | _, _, _, .cons _ t => congrArg (_ :: ·) (RepF.names t)
/-- the place of a field -/
def fix (f : Str) : List Str → List D → Option D
  | n :: ns, d :: ds => if f = n then some d else fix f ns ds
  | _, _ => none
theorem RepF.look {M : Addr → Prop} {H : Hp} {f : Str} {x : D} : ∀ {n : List Str} {d : List D} {v : List (Str × V)}, RepF M H n d v → fix f n d = some x → ∃ y, v.lookup f = some y ∧ Rep M H x y
  | _, _, _, .nil, e => by simp [fix] at e
  | n :: ns, d :: ds, (_, v) :: vs, .cons r t, e => by
    unfold fix at e
    rw [lookup_put]
    by_cases h : f = n
    · rw [if_pos h] at e ⊢
      cases e
      exact ⟨v, rfl, r⟩
    · rw [if_neg h] at e ⊢
      exact RepF.look t e
theorem lookup_none {f : Str} : ∀ {v : List (Str × V)}, f ∉ v.map (·.1) → v.lookup f = none
  | [], _ => rfl
  | (n, v) :: vs, h => by
    rw [lookup_put, if_neg (fun e => h (by simp [e]))]
    exact lookup_none (fun z => h (by simp [z]))
theorem RepF.no {M : Addr → Prop} {H : Hp} {f : Str} {n : List Str} {d : List D} {v : List (Str × V)} (r : RepF M H n d v) (h : n.contains f = false) : v.lookup f = none :=
  lookup_none fun z => by
    rw [r.names] at z
    rw [List.contains_iff_mem.mpr z] at h
    cases h

/-! ### the mutable part -/
inductive MRep (M : Addr → Prop) (H : Hp) (a : Addr) : MO → Prop
  | lst {xs : List D} {vs : List V} (h : H a = some (.lst vs)) (r : Reps M H xs vs) : MRep M H a (.lst xs)
  | dic {kvs : List (Key × D)} {kws : List (Key × V)} (h : H a = some (.dK kws)) (r : RepK M H kvs kws) : MRep M H a (.dic kvs)
  | ins {C dx : Addr} {ns : List Str} {ds : List D} {gs : List (Str × V)} (h : H a = some (.ins C dx gs)) (r : RepF M H ns ds gs) : MRep M H a (.ins C ns ds)
structure MutR (m : Mu) (H : Hp) : Prop where
  nd : (m.map (·.1)).Nodup
  at_ : ∀ p ∈ m, MRep (dom m) H p.1 p.2
theorem MRep.there {M : Addr → Prop} {H : Hp} {a : Addr} {o : MO} (r : MRep M H a o) : ∃ u, H a = some u := by
  cases r with
  | lst h _ => exact ⟨_, h⟩
  | dic h _ => exact ⟨_, h⟩
  | ins h _ => exact ⟨_, h⟩
theorem MRep.mono {M M' : Addr → Prop} {H H' : Hp} {a : Addr} {o : MO} (s : Stp M H M' H') (k : ∀ u, H a = some u → H' a = some u) (r : MRep M H a o) : MRep M' H' a o := by
  cases r with
  | lst h r => exact .lst (k _ h) (r.mono s)
  | dic h r => exact .dic (k _ h) (r.mono s)
  | ins h r => exact .ins (k _ h) (r.mono s)
theorem MutR.nil (H : Hp) : MutR [] H := ⟨List.nodup_nil, fun _ h => by cases h⟩
theorem MutR.there {m : Mu} {H : Hp} (r : MutR m H) {a : Addr} (h : dom m a) : ∃ u, H a = some u := by
  obtain ⟨p, hp, e⟩ := List.mem_map.mp h
  subst e
  exact (r.at_ p hp).there
/-- a new fixed object -/
theorem MutR.new {m : Mu} {H : Hp} {p : Addr} {o : HO} (r : MutR m H) (n : H p = none) : MutR m (upd H p o) :=
  ⟨r.nd, fun q hq => (r.at_ q hq).mono (Stp.new n) fun u e => by rw [upd_ne (ne_of_none e n)]; exact e⟩
/-- a new mutable object -/
theorem MutR.newM {m : Mu} {H : Hp} {p : Addr} {o : HO} {x : MO} (r : MutR m H) (n : H p = none) (h : MRep (dom ((p, x) :: m)) (upd H p o) p x) : MutR ((p, x) :: m) (upd H p o) := by
  refine ⟨List.nodup_cons.mpr ⟨fun z => ?_, r.nd⟩, fun q hq => ?_⟩
  · obtain ⟨u, e⟩ := r.there (a := p) z
    rw [n] at e
    cases e
  · rcases List.mem_cons.mp hq with e | hq
    · subst e; exact h
    · exact (r.at_ q hq).mono (Stp.newM n) fun u e => by rw [upd_ne (ne_of_none e n)]; exact e
inductive At : Mu → Addr → MO → Prop
  | head {m : Mu} {p : Addr} {o : MO} : At ((p, o) :: m) p o
  | tail {m : Mu} {p : Addr} {o : MO} {q : Addr × MO} (h : At m p o) : At (q :: m) p o
inductive Put : Mu → Addr → MO → Mu → Prop
  | head {m : Mu} {p : Addr} {o u : MO} : Put ((p, o) :: m) p u ((p, u) :: m)
  | tail {m m' : Mu} {p : Addr} {u : MO} {q : Addr × MO} (h : Put m p u m') : Put (q :: m) p u (q :: m')
theorem At.mem {m : Mu} {p : Addr} {o : MO} (h : At m p o) : (p, o) ∈ m := by
  induction h with
  | head => exact List.mem_cons_self ..
  | tail _ ih => exact List.mem_cons_of_mem _ ih
theorem At.dom {m : Mu} {p : Addr} {o : MO} (h : At m p o) : dom m p := List.mem_map.mpr ⟨_, h.mem, rfl⟩
theorem At.rep {m : Mu} {p : Addr} {o : MO} {H : Hp} (h : At m p o) (r : MutR m H) : MRep (DL.dom m) H p o := r.at_ _ h.mem
theorem Put.keys {m m' : Mu} {p : Addr} {u : MO} (h : Put m p u m') : m'.map (·.1) = m.map (·.1) := by
  induction h with
  | head => rfl
  | tail _ ih => simp [ih]
theorem Put.dom {m m' : Mu} {p : Addr} {u : MO} (h : Put m p u m') : dom m' = dom m := by
  funext a
  unfold DL.dom
  rw [h.keys]
theorem Put.has {m m' : Mu} {p : Addr} {u : MO} (h : Put m p u m') : DL.dom m p := by
  induction h with
  | head => exact dom_cons.mpr (.inl rfl)
  | tail _ ih => exact dom_cons.mpr (.inr ih)
theorem Put.mem {m m' : Mu} {p : Addr} {u : MO} (h : Put m p u m') (nd : (m.map (·.1)).Nodup) : ∀ q ∈ m', (q = (p, u)) ∨ (q ∈ m ∧ q.1 ≠ p) := by
  induction h with
  | head =>
    intro q hq
    rcases List.mem_cons.mp hq with e | hq
    · exact .inl e
    · refine .inr ⟨List.mem_cons_of_mem _ hq, fun e => ?_⟩
      exact (List.nodup_cons.mp nd).1 (List.mem_map.mpr ⟨q, hq, e⟩)
  | tail h ih =>
    intro q hq
    rcases List.mem_cons.mp hq with e | hq
    · subst e
      refine .inr ⟨List.mem_cons_self .., fun e => ?_⟩
      have z := h.has
      rw [← e] at z
      exact (List.nodup_cons.mp nd).1 z
    · rcases ih (List.nodup_cons.mp nd).2 q hq with e | ⟨a, b⟩
      · exact .inl e
      · exact .inr ⟨List.mem_cons_of_mem _ a, b⟩
/-- a mutable object is written -/
theorem Put.stp {m m' : Mu} {p : Addr} {u : MO} {H : Hp} {o : HO} (h : Put m p u m') : Stp (DL.dom m) H (DL.dom m') (upd H p o) := Stp.wr h.has (fun a z => by rw [h.dom] at z; exact z)
theorem Put.mut {m m' : Mu} {p : Addr} {u : MO} {H : Hp} {o : HO} (h : Put m p u m') (r : MutR m H) (n : MRep (DL.dom m') (upd H p o) p u) : MutR m' (upd H p o) := by
  refine ⟨by rw [h.keys]; exact r.nd, fun q hq => ?_⟩
  rcases h.mem r.nd q hq with e | ⟨a, b⟩
  · subst e; exact n
  · exact (r.at_ q a).mono h.stp fun v e => by rw [upd_ne b]; exact e
/-- the newest mutable object is let go (it stays as it is) -/
theorem MutR.drop {m : Mu} {p : Addr × MO} {H : Hp} (r : MutR (p :: m) H) : MutR m H :=
  ⟨(List.nodup_cons.mp r.nd).2, fun q hq => (r.at_ q (List.mem_cons_of_mem _ hq)).mono (Stp.less fun a z => dom_cons.mpr (.inr z)) fun _ e => e⟩
theorem MutR.notin {m : Mu} {p : Addr × MO} {H : Hp} (r : MutR (p :: m) H) : ¬ dom m p.1 := (List.nodup_cons.mp r.nd).1

/-! ### frames -/
abbrev Rho := List (Option D)
inductive RO (M : Addr → Prop) (H : Hp) : Option D → Option V → Prop
  | none (v : Option V) : RO M H none v
  | some {d : D} {v : V} (r : Rep M H d v) : RO M H (some d) (some v)
inductive ROs (M : Addr → Prop) (H : Hp) : Rho → St → Prop
  | nil : ROs M H [] []
  | cons {d : Option D} {v : Option V} {ds : Rho} {vs : St} (r : RO M H d v) (t : ROs M H ds vs) : ROs M H (d :: ds) (v :: vs)
theorem RO.mono {M M' : Addr → Prop} {H H' : Hp} (s : Stp M H M' H') {d : Option D} {v : Option V} : RO M H d v → RO M' H' d v
  | .none v => .none v
  | .some r => .some (r.mono s)
theorem ROs.mono {M M' : Addr → Prop} {H H' : Hp} (s : Stp M H M' H') : ∀ {d : Rho} {v : St}, ROs M H d v → ROs M' H' d v
  | _, _, .nil => .nil
  | _, _, .cons r t => .cons (r.mono s) (ROs.mono s t)
theorem ROs.get {M : Addr → Prop} {H : Hp} : ∀ {d : Rho} {v : St} {i : Nat} {x : D}, ROs M H d v → d[i]? = some (some x) → ∃ y, v[i]? = some (some y) ∧ Rep M H x y
  | _, _, _, _, .nil, e => by simp at e
  | _, _, 0, _, .cons r _, e => by
    simp at e
    subst e
    cases r with
    | some r => exact ⟨_, rfl, r⟩
  | _, _, i + 1, x, .cons _ t, e => by
    obtain ⟨y, h1, h2⟩ := ROs.get (i := i) (x := x) t (by simpa using e)
    exact ⟨y, by simpa using h1, h2⟩
theorem ROs.set {M : Addr → Prop} {H : Hp} {x : Option D} {y : Option V} (q : RO M H x y) : ∀ {d : Rho} {v : St} (i : Nat), ROs M H d v → ROs M H (d.set i x) (v.set i y)
  | _, _, _, .nil => .nil
  | _, _, 0, .cons _ t => .cons q t
  | _, _, i + 1, .cons r t => .cons r (ROs.set q i t)
theorem ROs.start {M : Addr → Prop} {H : Hp} (k : Nat) : ∀ {ds : List D} {vs : List V}, Reps M H ds vs → ROs M H (ds.map some ++ List.replicate k none) (vs.map some ++ List.replicate k none)
  | _, _, .nil => by
    induction k with
    | zero => exact .nil
    | succ k ih => exact .cons (.none _) ih
  | _, _, .cons r t => .cons (.some r) (ROs.start k t)
structure EnvR (r : Rho) (m : Mu) (s : St) (H : Hp) : Prop where
  env : ROs (dom m) H r s
  mu : MutR m H
/-- forgetting what slots hold -/
inductive Le : Rho → Rho → Prop
  | nil : Le [] []
  | keep {d : Option D} {r r' : Rho} (t : Le r r') : Le (d :: r) (d :: r')
  | lose {d : Option D} {r r' : Rho} (t : Le r r') : Le (d :: r) (none :: r')
theorem ROs.le {M : Addr → Prop} {H : Hp} : ∀ {r r' : Rho} {v : St}, Le r r' → ROs M H r v → ROs M H r' v
  | _, _, _, .nil, h => h
  | _, _, _, .keep t, .cons a b => .cons a (ROs.le t b)
  | _, _, _, .lose t, .cons _ b => .cons (.none _) (ROs.le t b)

/-! ### exceptions -/
structure Ex where
  C : Addr
  ns : List Str
  ds : List D
def RepX (M : Addr → Prop) (H : Hp) (x : Ex) (cls : Value) (dd : Option Addr) : Prop :=
  cls = .ref x.C ∧ ((dd = none ∧ x.ns = [] ∧ x.ds = []) ∨ ∃ d gs, dd = some d ∧ H d = some (.xd gs) ∧ ¬ M d ∧ RepF M H x.ns x.ds gs)
theorem RepX.mono {M M' : Addr → Prop} {H H' : Hp} (s : Stp M H M' H') {x : Ex} {cls : Value} {dd : Option Addr} (h : RepX M H x cls dd) : RepX M' H' x cls dd := by
  obtain ⟨e, h⟩ := h
  refine ⟨e, ?_⟩
  rcases h with h | ⟨d, gs, h1, h2, h3, h4⟩
  · exact .inl h
  · exact .inr ⟨d, gs, h1, (s _ _ h2 h3).1, (s _ _ h2 h3).2, h4.mono s⟩

/-! ### what is wanted -/
abbrev KT := D → Mu → Prop
abbrev ET := Ex → Rho → Mu → Prop
def Go (m : Mu) (H : Hp) (K : KT) (Q : VK) : Prop := ∀ d m' v H', Stp (dom m) H (dom m') H' → MutR m' H' → Rep (dom m') H' d v → K d m' → Q v H'
def GoT (m : Mu) (H : Hp) (K : Bool → Mu → Prop) (Q : Bool → Hp → Prop) : Prop := ∀ b m' H', Stp (dom m) H (dom m') H' → MutR m' H' → K b m' → Q b H'
def GoA (m : Mu) (H : Hp) (K : List D → Mu → Prop) (Q : List V → Hp → Prop) : Prop := ∀ ds m' vs H', Stp (dom m) H (dom m') H' → MutR m' H' → Reps (dom m') H' ds vs → K ds m' → Q vs H'
/-- what is wanted of exceptions, at the frame's slots -/
def Rz (W : WX) (E : ET) (m : Mu) (H : Hp) : Prop := ∀ x r' m' cls dd s' H', Stp (dom m) H (dom m') H' → EnvR r' m' s' H' → RepX (dom m') H' x cls dd → E x r' m' → W cls dd s' H'
theorem Rz.step {W : WX} {E : ET} {m m1 : Mu} {H H1 : Hp} (z : Rz W E m H) (s : Stp (dom m) H (dom m1) H1) : Rz W E m1 H1 := fun x r' m' cls dd s' H' a b c e => z x r' m' cls dd s' H' (s.trans a) b c e
theorem Go.step {m m1 : Mu} {H H1 : Hp} {K : KT} {Q : VK} (g : Go m H K Q) (s : Stp (dom m) H (dom m1) H1) : Go m1 H1 K Q := fun d m' v H' a b c e => g d m' v H' (s.trans a) b c e

def We (W : WX) (E : ET) (t : TE) (r : Rho) (m : Mu) (K : KT) : Prop := ∀ s H Q, EnvR r m s H → Rz W E m H → Go m H K Q → t s H Q
def Wt (W : WX) (E : ET) (t : TT) (r : Rho) (m : Mu) (K : Bool → Mu → Prop) : Prop := ∀ s H Q, EnvR r m s H → Rz W E m H → GoT m H K Q → t s H Q
def Wa (W : WX) (E : ET) (t : TA) (r : Rho) (m : Mu) (K : List D → Mu → Prop) : Prop := ∀ s H Q, EnvR r m s H → Rz W E m H → GoA m H K Q → t s H Q
structure DEnds where
  nx : Rho → Mu → Prop
  rt : KT
  bk : Rho → Mu → Prop := fun _ _ => False
  ct : Rho → Mu → Prop := fun _ _ => False
structure GoS (m : Mu) (H : Hp) (P : DEnds) (De : Ends) : Prop where
  nx : ∀ r' m' s' H', Stp (dom m) H (dom m') H' → EnvR r' m' s' H' → P.nx r' m' → De.nx s' H'
  rt : ∀ d m' v H', Stp (dom m) H (dom m') H' → MutR m' H' → Rep (dom m') H' d v → P.rt d m' → De.rt v H'
  bk : ∀ r' m' s' H', Stp (dom m) H (dom m') H' → EnvR r' m' s' H' → P.bk r' m' → De.bk s' H'
  ct : ∀ r' m' s' H', Stp (dom m) H (dom m') H' → EnvR r' m' s' H' → P.ct r' m' → De.ct s' H'
theorem GoS.step {m m1 : Mu} {H H1 : Hp} {P : DEnds} {De : Ends} (g : GoS m H P De) (s : Stp (dom m) H (dom m1) H1) : GoS m1 H1 P De :=
  ⟨fun r' m' s' H' a => g.nx r' m' s' H' (s.trans a), fun d m' v H' a => g.rt d m' v H' (s.trans a), fun r' m' s' H' a => g.bk r' m' s' H' (s.trans a), fun r' m' s' H' a => g.ct r' m' s' H' (s.trans a)⟩
def Ws (W : WX) (E : ET) (t : TS) (r : Rho) (m : Mu) (P : DEnds) : Prop := ∀ s H De, EnvR r m s H → Rz W E m H → GoS m H P De → t De s H

section
variable {W : WX} {E : ET} {r : Rho} {m : Mu} {K : KT} {te ta tb tc : TE} {t u : TT} {a : TA} {P : DEnds} {ts tu : TS}
theorem EnvR.step {s : St} {H H1 : Hp} {m1 : Mu} (e : EnvR r m s H) (st : Stp (dom m) H (dom m1) H1) (mu : MutR m1 H1) : EnvR r m1 s H1 := ⟨e.env.mono st, mu⟩
/-- weaker wants -/
theorem We.imp {K' : KT} (h : We W E te r m K) (k : ∀ d m', K d m' → K' d m') : We W E te r m K' := fun s H Q e z g => h s H Q e z fun d m' v H' a b c x => g d m' v H' a b c (k d m' x)
theorem we_var {i : Nat} {d : D} (h : r[i]? = some (some d)) (k : K d m) : We W E (tVar i) r m K := fun s H Q e z g => by
  obtain ⟨v, h1, h2⟩ := e.env.get h
  exact ⟨v, h1, g d m v H (Stp.refl _ _) e.mu h2 k⟩
theorem we_cint {i : Int} (k : K (.int i) m) : We W E (tC (.int i)) r m K := fun s H Q e z g => g _ m _ H (Stp.refl _ _) e.mu (.int i) k
theorem we_cbl {b : Bool} (k : K (.bl b) m) : We W E (tC (.bl b)) r m K := fun s H Q e z g => g _ m _ H (Stp.refl _ _) e.mu (.bl b) k
theorem we_cnon (k : K .non m) : We W E (tC .non) r m K := fun s H Q e z g => g _ m _ H (Stp.refl _ _) e.mu .non k
theorem we_cstr {x : Str} (k : K (.str x) m) : We W E (tC (.str x)) r m K := fun s H Q e z g => g _ m _ H (Stp.refl _ _) e.mu (.str x) k
theorem we_cty {n : String} (k : K (.ty n) m) : We W E (tC (.ty n)) r m K := fun s H Q e z g => g _ m _ H (Stp.refl _ _) e.mu (.ty n) k
theorem we_cref {p : Addr} (k : K (.ref p) m) : We W E (tC (.ref p)) r m K := fun s H Q e z g => g _ m _ H (Stp.refl _ _) e.mu (.ref p) k

/-- an operation on values, at the frame's slots -/
abbrev O2 := V → V → St → Hp → VK → Prop
abbrev O1 := V → St → Hp → VK → Prop
def W2 (W : WX) (E : ET) (o : O2) (x y : D) (r : Rho) (m : Mu) (K : KT) : Prop := ∀ s H Q v w, EnvR r m s H → Rz W E m H → Rep (dom m) H x v → Rep (dom m) H y w → Go m H K Q → o v w s H Q
def W1 (W : WX) (E : ET) (o : O1) (x : D) (r : Rho) (m : Mu) (K : KT) : Prop := ∀ s H Q v, EnvR r m s H → Rz W E m H → Rep (dom m) H x v → Go m H K Q → o v s H Q
def t2 (o : O2) (ta tb : TE) : TE := fun s H Q => ta s H fun x H1 => tb s H1 fun y H2 => o x y s H2 Q
def t1 (o : O1) (ta : TE) : TE := fun s H Q => ta s H fun x H1 => o x s H1 Q
theorem we_2 {o : O2} (h : We W E ta r m fun x m1 => We W E tb r m1 fun y m2 => W2 W E o x y r m2 K) : We W E (t2 o ta tb) r m K := fun s H Q e z g =>
  h s H _ e z fun x m1 v H1 s1 mu1 r1 h1 => h1 s H1 _ (e.step s1 mu1) (z.step s1) fun y m2 w H2 s2 mu2 r2 h2 =>
    h2 s H2 Q v w ((e.step s1 mu1).step s2 mu2) ((z.step s1).step s2) (r1.mono s2) r2 ((g.step s1).step s2)
theorem we_1 {o : O1} (h : We W E ta r m fun x m1 => W1 W E o x r m1 K) : We W E (t1 o ta) r m K := fun s H Q e z g =>
  h s H _ e z fun x m1 v H1 s1 mu1 r1 h1 => h1 s H1 Q v (e.step s1 mu1) (z.step s1) r1 (g.step s1)

end
end DL
set_option Elab.async false
set_option linter.all false
set_option maxRecDepth 100000
/-! DL2: rules without types (an operation's reading is the union of what it can be), and what they do to values as trees. -/
namespace DL
open PySem PySem.Spec L2
open PyProof.Rows hiding St

/-! ### operations at the frame's slots -/
def OpS (X : Cx) (f : Value → Value → Sem Value) (o : O2) : Prop :=
  ∀ (pins : List (Addr × Obj)) (s : Shared) (σ : L2.St) (H : Hp) (x y : V) (u v : Value) (Q : VK), Inv X pins σ H s → RelV x u → RelV y v → o x y σ H Q → wpAny (model X.prog X.w) X.A (f u v) (EP X pins σ Q) X.xe s
def UnS (X : Cx) (f : Value → Sem Value) (o : O1) : Prop :=
  ∀ (pins : List (Addr × Obj)) (s : Shared) (σ : L2.St) (H : Hp) (x : V) (u : Value) (Q : VK), Inv X pins σ H s → RelV x u → o x σ H Q → wpAny (model X.prog X.w) X.A (f u) (EP X pins σ Q) X.xe s
abbrev OC := List V → L2.St → Hp → VK → Prop
def CallS (X : Cx) (f : Value) (o : OC) : Prop :=
  ∀ (pins : List (Addr × Obj)) (s : Shared) (σ : L2.St) (H : Hp) (xs : List V) (us : List Value) (Q : VK), Inv X pins σ H s → Vals xs us → o xs σ H Q → wpAny (model X.prog X.w) X.A (call f us) (EP X pins σ Q) X.xe s
def tC2 (o : OC) (t : TA) : TE := fun σ H Q => t σ H fun vs H1 => o vs σ H1 Q
section
variable {X : Cx} {op : Operator} {cop cop' : CmpOp} {uop : UnaryOp} {o o' : O2} {o1 o1' : O1} {oc oc' : OC} {a b c e : Expr} {es : List Expr} {ta tb tc : TE} {t : TA} {pos p : Pos} {f : Value → Value → Sem Value} {f1 : Value → Sem Value} {fv : Value} {x : Str} {T id : String}
theorem OpS.of {r : R2} (h : OpR X f r) : OpS X f (fun x y _ H Q => r x y H Q) := fun pins s σ H x y u v Q I ru rv q => h pins s σ H x y u v Q I ru rv q
theorem OpS.or (h : OpS X f o) (h' : OpS X f o') : OpS X f (fun x y s H Q => o x y s H Q ∨ o' x y s H Q) := fun pins s σ H x y u v Q I ru rv q => q.elim (h pins s σ H x y u v Q I ru rv) (h' pins s σ H x y u v Q I ru rv)
theorem UnS.of {r : V → Hp → VK → Prop} (h : UnR X f1 r) : UnS X f1 (fun x _ H Q => r x H Q) := fun pins s σ H x u Q I ru q => h pins s σ H x u Q I ru q
theorem UnS.or (h : UnS X f1 o1) (h' : UnS X f1 o1') : UnS X f1 (fun x s H Q => o1 x s H Q ∨ o1' x s H Q) := fun pins s σ H x u Q I ru q => q.elim (h pins s σ H x u Q I ru) (h' pins s σ H x u Q I ru)
theorem CallS.of {r : List V → Hp → VK → Prop} (h : CallR X fv r) : CallS X fv (fun xs _ H Q => r xs H Q) := fun pins s σ H xs us Q I ru q => h pins s σ H xs us Q I ru q
theorem CallS.or (h : CallS X fv oc) (h' : CallS X fv oc') : CallS X fv (fun xs s H Q => oc xs s H Q ∨ oc' xs s H Q) := fun pins s σ H xs us Q I ru q => q.elim (h pins s σ H xs us Q I ru) (h' pins s σ H xs us Q I ru)
theorem pe_bin (ho : OpS X (binaryOp op) o) (ha : PE X a ta) (hb : PE X b tb) : PE X (.BinOp a op b pos) (t2 o ta tb) :=
  ⟨fun pins s σ H Q I h => wpAny_BinOp (binT ha hb I (R := fun x y H2 => o x y σ H2 Q) h fun v u s2 x y H2 I2 r1 r2 q => ho pins s2 σ H2 x y v u Q I2 r1 r2 q)⟩
theorem pe_una (ho : UnS X (unaryOp uop) o1) (ha : PE X a ta) : PE X (.UnaryOp uop a pos) (t1 o1 ta) :=
  ⟨fun pins s σ H Q I h => UnaryOp_ (thn (ha.run pins s σ H _ I h) fun v s1 ⟨x, H1, I1, r1, q1⟩ => ho pins s1 σ H1 x v Q I1 r1 q1)⟩
theorem pe_cm (ho : OpS X (compareOp cop) o) (ha : PE X a ta) (hb : PE X b tb) (hm : behindInMarks cop b = false) : PE X (.Compare a [cop] [b] pos) (t2 o ta tb) :=
  ⟨fun pins s σ H Q I h => wpAny_Compare1 (binT ha hb I (R := fun x y H2 => o x y σ H2 Q) h fun v u s2 x y H2 I2 rx ry q => ho pins s2 σ H2 x y v u Q I2 rx ry q) hm⟩
theorem pt_cm (ho : OpS X (compareOp cop) o) (ha : PE X a ta) (hb : PE X b tb) (hm : behindInMarks cop b = false) : PT X (.Compare a [cop] [b] pos) (tTest (t2 o ta tb)) := by
  refine ⟨fun pins s σ H Q I h => ?_⟩
  refine wpAny_isTrue_Compare1 (thn (ha.run pins s σ H _ I h) fun v s1 ⟨x, H1, I1, r1, q1⟩ => thn (hb.run pins s1 σ H1 _ I1 q1) fun u s2 ⟨y, H2, I2, r2, q2⟩ =>
    thn (ho pins s2 σ H2 x y v u _ I2 r1 r2 q2) fun c s3 ⟨z, H3, I3, r3, k, e, q3⟩ => ?_) hm
  subst e
  cases r3
  exact wpAny_truthy_bool ⟨H3, I3, q3⟩
/-- a chain of two comparisons -/
def t3 (o o' : O2) (ta tb tc : TE) : TE := fun σ H Q => ta σ H fun x H1 => tb σ H1 fun y H2 => o x y σ H2 fun z H3 => ∃ k, z = .bl k ∧
  (if k = true then tc σ H3 fun w' H4 => o' y w' σ H4 Q else Q (.bl false) H3)
theorem pe_ch (ho : OpS X (compareOp cop) o) (ho' : OpS X (compareOp cop') o') (ha : PE X a ta) (hb : PE X b tb) (hc : PE X c tc)
    (hm : lastMarks [cop, cop'] [b, c] = false := by with_unfolding_all rfl) : PE X (.Compare a [cop, cop'] [b, c] pos) (t3 o o' ta tb tc) := by
  refine ⟨fun pins s σ H Q I h => ?_⟩
  refine Compare_chain (thn (ha.run pins s σ H _ I h) fun v s1 ⟨x, H1, I1, r1, q1⟩ => chain_link (thn (hb.run pins s1 σ H1 _ I1 q1) fun u s2 ⟨y, H2, I2, r2, q2⟩ =>
    thn (ho pins s2 σ H2 x y v u _ I2 r1 r2 q2) fun d s3 ⟨z, H3, I3, r3, k, e, q3⟩ => ?_)) hm
  subst e
  cases r3
  refine wpAny_truthy_bool ?_
  cases k with
  | false => exact ite_ff ⟨.bl false, H3, I3, rfl, q3⟩
  | true => exact ite_tt (chain_last (thn (hc.run pins s3 σ H3 _ I3 q3) fun w' s4 ⟨z', H4, I4, r4, q4⟩ => ho' pins s4 σ H4 y z' u w' Q I4 r2 r4 q4))
theorem pt_ch (ho : OpS X (compareOp cop) o) (ho' : OpS X (compareOp cop') o') (ha : PE X a ta) (hb : PE X b tb) (hc : PE X c tc)
    (hm : lastMarks [cop, cop'] [b, c] = false := by with_unfolding_all rfl) : PT X (.Compare a [cop, cop'] [b, c] pos) (tTest (t3 o o' ta tb tc)) := by
  refine ⟨fun pins s σ H Q I h => ?_⟩
  refine isTrue_chain (thn (ha.run pins s σ H _ I h) fun v s1 ⟨x, H1, I1, r1, q1⟩ => test_link (thn (hb.run pins s1 σ H1 _ I1 q1) fun u s2 ⟨y, H2, I2, r2, q2⟩ =>
    thn (ho pins s2 σ H2 x y v u _ I2 r1 r2 q2) fun d s3 ⟨z, H3, I3, r3, k, e, q3⟩ => ?_)) hm
  subst e
  cases r3
  refine wpAny_truthy_bool ?_
  cases k with
  | false =>
    obtain ⟨k', e', q'⟩ := q3
    cases e'
    exact ite_ff ⟨H3, I3, q'⟩
  | true =>
    refine ite_tt (test_last (thn (hc.run pins s3 σ H3 _ I3 q3) fun w' s4 ⟨z', H4, I4, r4, q4⟩ => thn (ho' pins s4 σ H4 y z' u w' _ I4 r2 r4 q4) fun d' s5 ⟨z2, H5, I5, r5, k2, e2, q5⟩ => ?_))
    subst e2
    cases r5
    exact wpAny_truthy_bool ⟨H5, I5, q5⟩
/-- a value as a test -/
def tTr (K : PySem.W.Frag) (ta : TE) : TT := fun σ H Q => ta σ H fun x H' => ∃ k, TruV K x H' k ∧ Q k H'
theorem pt_tr (ha : PE X a ta) (he : ∀ whole, isTrue a X.env whole = (do let v ← whole; standAt a.pos; holding [v] (truthy v)) := by intro _; rfl) : PT X a (tTr X.K ta) := pt_truth ha he
/-- built-in functions and classes by name -/
theorem pe_cb (hc : CallS X (.builtin id) oc) (hg : Gl X x) (hm : X.mg x = none) (hv : bootBuiltins x = some (.builtin id)) (ha : PA X (e :: es) t) (hn : x ≠ "__name__" := by decide) (hdb : (x == ("__debug__" : Str)) = false := by decide)
    (he : starEach (e :: es) X.env = (false, eval e X.env) :: starEach es X.env := by rfl) (hpl : (backTo pos (starEach es X.env)).any (·.1) = false := by rfl) : PE X (.Call (.Name x p) (e :: es) [] pos) (tC2 oc t) := by
  refine ⟨fun pins s σ H Q I h => ?_⟩
  refine wpAny_Call_Name_kw (ld_blt I hg hm hv ?_ hn hdb)
  exact PyProof.Rows.callWith_builtin1 (thn (ha.run pos pins s σ H _ I h) fun us s1 ⟨vs, H1, I1, r1, q1⟩ => hc pins s1 σ H1 vs us Q I1 r1 q1) he hpl
theorem pe_ct (hc : CallS X (.type T) oc) (hg : Gl X x) (hm : X.mg x = none) (hv : bootBuiltins x = some (.type T)) (ha : PA X (e :: es) t) (hn : x ≠ "__name__" := by decide) (hdb : (x == ("__debug__" : Str)) = false := by decide)
    (he : starEach (e :: es) X.env = (false, eval e X.env) :: starEach es X.env := by rfl) (hpl : (backTo pos (starEach es X.env)).any (·.1) = false := by rfl) : PE X (.Call (.Name x p) (e :: es) [] pos) (tC2 oc t) := by
  refine ⟨fun pins s σ H Q I h => ?_⟩
  refine wpAny_Call_Name_kw (ld_blt I hg hm hv ?_ hn hdb)
  exact PyProof.Rows.callWith_type1 (thn (ha.run pos pins s σ H _ I h) fun us s1 ⟨vs, H1, I1, r1, q1⟩ => hc pins s1 σ H1 vs us Q I1 r1 q1) he hpl
theorem pe_cf (hc : CallS X (.builtin id) oc) (hg : Gl X x) (hm : X.mg x = some (.builtin id)) (ha : PA X (e :: es) t) (hdb : (x == ("__debug__" : Str)) = false := by decide)
    (he : starEach (e :: es) X.env = (false, eval e X.env) :: starEach es X.env := by rfl) (hpl : (backTo pos (starEach es X.env)).any (·.1) = false := by rfl) : PE X (.Call (.Name x p) (e :: es) [] pos) (tC2 oc t) := by
  refine ⟨fun pins s σ H Q I h => ?_⟩
  refine wpAny_Call_Name_kw (ld_glob I hg hm ?_ hdb)
  exact PyProof.Rows.callWith_builtin1 (thn (ha.run pos pins s σ H _ I h) fun us s1 ⟨vs, H1, I1, r1, q1⟩ => hc pins s1 σ H1 vs us Q I1 r1 q1) he hpl
end
end DL
set_option Elab.async false
set_option linter.all false
set_option maxRecDepth 100000
/-! DL3: promises over trees; defs, methods, classes called; bodies. -/
namespace DL
open PySem PySem.Spec L2
open PyProof.Rows hiding St

/-- a promise over trees: the arguments, what lies mutable, what is wanted of the answer, of an exception -/
abbrev SpecD := List D → Mu → KT → (Ex → Mu → Prop) → Prop
def GoX (m : Mu) (H : Hp) (E : Ex → Mu → Prop) (F : XK) : Prop := ∀ x m' cls dd H', Stp (dom m) H (dom m') H' → MutR m' H' → RepX (dom m') H' x cls dd → E x m' → F cls dd H'
def spD (n : Nat) (S : SpecD) : Sp := fun vs H Q F => ∃ ds m K E, ds.length = n ∧ Reps (dom m) H ds vs ∧ MutR m H ∧ S ds m K E ∧ Go m H K Q ∧ GoX m H E F
/-- the world of a law: its program, what the top has written -/
structure Gx where
  P : Program
  w : World
  K : PySem.W.Frag
  mg : Str → Option Value
  base : Heap
abbrev Gx.of (X : Cx) : Gx := ⟨X.prog, X.w, X.K, X.mg, X.base⟩
/-- constants handed in as defaults -/
def ofD : D → V
  | .int i => .int i
  | .bl b => .bl b
  | .str x => .str x
  | .ref a => .ref a
  | .ty n => .ty n
  | _ => .non
def isC : D → Bool
  | .int _ => true
  | .bl _ => true
  | .str _ => true
  | .ref _ => true
  | .ty _ => true
  | .non => true
  | _ => false
theorem rep_c {M : Addr → Prop} {H : Hp} : ∀ {d : D}, isC d = true → Rep M H d (ofD d)
  | .non, _ => .non
  | .bl b, _ => .bl b
  | .int i, _ => .int i
  | .str x, _ => .str x
  | .ty n, _ => .ty n
  | .ref a, _ => .ref a
  | .tup _, h => by cases h
  | .lst _, h => by cases h
  | .dic _, h => by cases h
  | .ins _ _ _, h => by cases h
  | .exc _ _ _ _ _, h => by cases h
theorem reps_c {M : Addr → Prop} {H : Hp} : ∀ {ds : List D}, ds.all isC = true → Reps M H ds (ds.map ofD)
  | [], _ => .nil
  | d :: ds, h => by
    rw [List.all_cons, Bool.and_eq_true] at h
    exact .cons (rep_c h.1) (reps_c h.2)
/-- a def that stands at f: n parameters, defaults dd -/
structure Fnx (G : Gx) (k : Nat) (f : Addr) (n : Nat) (S : SpecD) (dd : List D) : Prop where
  ex : ∃ (fd : FuncData) (ps : List Str) (ds : List Value), FnOk G.P G.w G.K G.mg G.base (L2N.CX G.P G.w) k f fd ps (spD n S) ∧ Binds G.K fd ps ds ∧ Vals (dd.map ofD) ds
  cs : dd.all isC = true
structure Cal (G : Gx) (k : Nat) (x : Str) (n : Nat) (S : SpecD) (dd : List D) : Prop where
  ex : ∃ f, Fnx G k f n S dd ∧ G.mg x = some (.ref f) ∧ PySem.W.keepIn G.K (.ref f) = true
/-- a method mt of the class at C, whose instances have the fields ns -/
structure Met (G : Gx) (k : Nat) (C : Addr) (ns : List Str) (mt : Str) (n : Nat) (S : SpecD) (dd : List D) : Prop where
  ex : ∃ f, Fnx G k f n S dd ∧ Meth G.K C mt f
  cl : Cls G.K C
  no : ns.contains mt = false
structure Mak (G : Gx) (k : Nat) (x : Str) (C : Addr) (n : Nat) (S : SpecD) (dd : List D) : Prop where
  ex : ∃ f, Fnx G k f n S dd ∧ Mk G.K C f
  mgC : G.mg x = some (.ref C)

section
variable {X : Cx} {W : WX} {E : ET} {r : Rho} {m : Mu} {K : KT} {S : SpecD} {x mt : Str} {k j n : Nat} {dd : List D} {e o : Expr} {es : List Expr} {t : TA} {to : TE} {p pos apos : Pos} {C : Addr} {ns : List Str}

/-! ### a def by its name -/
def tCl (n : Nat) (S : SpecD) (dd : List D) (W : WX) (t : TA) : TE := tCallSD (spD n S) (dd.map ofD) (WE W) t
theorem pe_cl (c : Cal (Gx.of X) k x n S dd) (hr : Room j X.A) (hk : k ≤ j) (tk : L2N.Takes X W) (hg : Gl X x) (ha : PA X (e :: es) t)
    (hdb : (x == ("__debug__" : Str)) = false := by decide) (he : starEach (e :: es) X.env = (false, eval e X.env) :: starEach es X.env := by rfl) (hpl : (backTo pos (starEach es X.env)).any (·.1) = false := by rfl) :
    PE X (.Call (.Name x p) (e :: es) [] pos) (tCl n S dd W t) := by
  obtain ⟨f, ⟨⟨fd, ps, ds, F, b, d⟩, cs⟩, hm, kp⟩ := c.ex
  exact pe_callSD F (hr.mono hk) hg hm kp b d (L2N.passAt tk) ha hdb he hpl
theorem spD_of {ds : List D} {vs : List V} {m1 : Mu} {H1 : Hp} {Q : VK} {s : L2.St} {F : Ex → Mu → Prop} (hn : ds.length = n) (e : EnvR r m1 s H1) (z : Rz W E m1 H1) (g : Go m1 H1 K Q) (rs : Reps (dom m1) H1 ds vs)
    (h : S ds m1 K F) (hF : ∀ x m', F x m' → E x r m') : spD n S vs H1 Q (WE W s) :=
  ⟨ds, m1, K, F, hn, rs, e.mu, h, g, fun x m' cls dd H' a b c q => z x r m' cls dd s H' a (e.step a b) c (hF x m' q)⟩
theorem we_cl (cs : dd.all isC = true) (h : Wa W E t r m fun ds m1 => (ds ++ dd).length = n ∧ S (ds ++ dd) m1 K fun x m' => E x r m') : We W E (tCl n S dd W t) r m K := fun s H Q e z g =>
  h s H _ e z fun ds m1 vs H1 st mu rs q => spD_of q.1 (e.step st mu) (z.step st) (g.step st) (rs.append (reps_c cs)) q.2 fun _ _ q => q

/-! ### a method of an instance -/
def tMt (G : Gx) (j : Nat) (W : WX) (mt : Str) (to : TE) (t : TA) : TE := fun σ H Q => to σ H fun x H1 => ∃ (a C dx : Addr) (fs : List (Str × V)) (k n : Nat) (ns : List Str) (S : SpecD) (dd : List D), x = .ref a ∧ H1 a = some (.ins C dx fs) ∧ fs.lookup mt = none ∧ k ≤ j ∧ Met G k C ns mt n S dd ∧
  t σ H1 fun vs H2 => spD n S (x :: (vs ++ dd.map ofD)) H2 Q (WE W σ)
theorem pe_mth {pl : Sem Bool} (hr : Room j X.A) (tk : L2N.Takes X W) (he : PE X o to) (ha : PA X (e :: es) t)
    (hst : starEach (e :: es) X.env = (false, eval e X.env) :: starEach es X.env := by rfl) (hpl : (backTo pos (starEach es X.env)).any (·.1) = false := by rfl)
    (ht : eval (.Call (.Attribute o mt apos) (e :: es) [] pos) X.env = (do
      let ov ← eval o X.env
      standAt apos.atName
      let (f, first) ← holding [ov] (getMethod ov mt pl)
      callWith pos f first (backTo pos (starEach (e :: es) X.env)) (backToKw pos (keywordEach [] X.env))) := by rfl) :
    PE X (.Call (.Attribute o mt apos) (e :: es) [] pos) (tMt (Gx.of X) j W mt to t) := by
  refine ⟨fun pins s σ H Q I h => ?_⟩
  refine PySem.W.methodCall_KW (pl := pl) (thn (he.run pins s σ H _ I h) fun u s1 ⟨x, H1, I1, rx, a, C, dx, fs, k, n, ns, S, dd, ex, ea, l, hk, M, q⟩ => ?_) ht
  subst ex
  obtain rfl : u = Value.ref a := rx
  obtain ⟨f, ⟨⟨fd, ps, ds, F, b, d⟩, cs⟩, hm⟩ := M.ex
  refine getmeth_ok I1 ea M.cl hm l ?_
  refine PySem.W.callWith_K (first := [.ref a]) (h₀ := X.base) I.ok.mod.kin hm.kp (thn (ha.run pos pins s1 σ H1 _ I1 q) fun us s2 ⟨vs, H2, I2, rr, q2⟩ => ⟨I2.kIn, ?_⟩) hst hpl
  exact run_fnSD (E := WE W) (us := .ref a :: us) (vs := .ref a :: vs) F (hr.mono hk) b d (L2N.passAt tk σ) I2 (.cons rfl rr) q2
theorem pe_mth0 {pl : Sem Bool} (hr : Room j X.A) (tk : L2N.Takes X W) (he : PE X o to)
    (ht : eval (.Call (.Attribute o mt apos) [] [] pos) X.env = (do
      let ov ← eval o X.env
      standAt apos.atName
      let (f, first) ← holding [ov] (getMethod ov mt pl)
      callWith pos f first (backTo pos (starEach [] X.env)) (backToKw pos (keywordEach [] X.env))) := by rfl) :
    PE X (.Call (.Attribute o mt apos) [] [] pos) (tMt (Gx.of X) j W mt to tNil) := by
  refine ⟨fun pins s σ H Q I h => ?_⟩
  refine PySem.W.methodCall_KW (pl := pl) (thn (he.run pins s σ H _ I h) fun u s1 ⟨x, H1, I1, rx, a, C, dx, fs, k, n, ns, S, dd, ex, ea, l, hk, M, q⟩ => ?_) ht
  subst ex
  obtain rfl : u = Value.ref a := rx
  obtain ⟨f, ⟨⟨fd, ps, ds, F, b, d⟩, cs⟩, hm⟩ := M.ex
  refine getmeth_ok I1 ea M.cl hm l ?_
  exact PySem.W.callWith_K0 (first := [.ref a]) I1.kIn hm.kp (run_fnSD (E := WE W) (us := [.ref a]) (vs := [.ref a]) F (hr.mono hk) b d (L2N.passAt tk σ) I1 (.cons rfl .nil) q)
/-- the instance that a tree is -/
inductive InsD : D → Mu → Addr → List Str → Prop
  | fixed {m : Mu} {C : Addr} {ns : List Str} {ds : List D} : InsD (.ins C ns ds) m C ns
  | mutb {m : Mu} {C a : Addr} {ns : List Str} {ds : List D} (h : At m a (.ins C ns ds)) : InsD (.ref a) m C ns
theorem InsD.look {d : D} {m : Mu} {C : Addr} {ns : List Str} {H : Hp} {v : V} (i : InsD d m C ns) (mu : MutR m H) (rp : Rep (dom m) H d v) : ∃ a dx gs ds, v = .ref a ∧ H a = some (.ins C dx gs) ∧ RepF (dom m) H ns ds gs := by
  cases i with
  | fixed =>
    cases rp with
    | ins mm h rf => exact ⟨_, _, _, _, rfl, h, rf⟩
  | mutb h =>
    cases rp
    have q := h.rep mu
    cases q with
    | ins h rf => exact ⟨_, _, _, _, rfl, h, rf⟩
theorem we_mt {G : Gx} (h : We W E to r m fun d m1 => ∃ (k n : Nat) (C : Addr) (ns : List Str) (S : SpecD) (dd : List D), Met G k C ns mt n S dd ∧ dd.all isC = true ∧ k ≤ j ∧ InsD d m1 C ns ∧
    Wa W E t r m1 fun ds m2 => (d :: (ds ++ dd)).length = n ∧ S (d :: (ds ++ dd)) m2 K fun x m' => E x r m') : We W E (tMt G j W mt to t) r m K := fun s H Q e z g =>
  h s H _ e z fun d m1 v H1 st mu rd q => by
    obtain ⟨k, n, C, ns, S, dd, M, cs, hk, i, q⟩ := q
    obtain ⟨a, dx, gs, ds', rfl, ha, rf⟩ := i.look mu rd
    refine ⟨a, C, dx, gs, k, n, ns, S, dd, rfl, ha, rf.no M.no, hk, M, ?_⟩
    refine q s H1 _ (e.step st mu) (z.step st) fun ds m2 vs H2 st2 mu2 rs q2 => ?_
    exact spD_of q2.1 ((e.step st mu).step st2 mu2) ((z.step st).step st2) ((g.step st).step st2) (.cons (rd.mono st2) (rs.append (reps_c cs))) q2.2 fun _ _ q => q

/-! ### a class by its name -/
theorem run_makeS {CX : CXT} {k : Nat} {C f : Addr} {fd : FuncData} {ps : List Str} {sp : Sp} {ds : List Value} {dvs : List V} {E : L2.St → XK} {pins : List (Addr × Obj)} {σ : L2.St} {H : Hp} {s : Shared} {Q : VK} {us : List Value} {vs : List V} (M : Mk X.K C f) (F : FnOk X.prog X.w X.K X.mg X.base CX k f fd ps sp) (hr : Room (k + 1) X.A) (hb : Binds X.K fd ps ds) (hd : Vals dvs ds)
    (hx : PassesAt CX X σ (E σ)) (I : Inv X pins σ H s) (r : Vals vs us)
    (h : ∀ x dx, H x = none → H dx = none → dx ≠ x → sp (.ref x :: (vs ++ dvs)) (upd (upd H dx (.own x)) x (.ins C dx [])) (fun v H2 => v = .non ∧ Q (.ref x) H2) (E σ)) :
    wpAny (model X.prog X.w) X.A (call (.ref C) us) (EP X pins σ Q) X.xe s := by
  have hq := h (s.heap.objs.size + 1) s.heap.objs.size (I.hok.fresh (Nat.le_succ _)) (I.hok.fresh (Nat.le_refl _)) (Nat.ne_of_lt (Nat.lt_succ_self _))
  have I2 := Inv.made (C := C) I
  have r2 : Vals (V.ref (s.heap.objs.size + 1) :: (vs ++ dvs)) (Value.ref (s.heap.objs.size + 1) :: (us ++ ds)) := .cons rfl (r.append hd)
  have hl : (Value.ref (s.heap.objs.size + 1) :: us ++ ds).length = ps.length := by
    have e := r2.length
    rw [F.len _ _ _ _ hq] at e
    exact e.symm
  refine wpAny_call (make_map (f := f) I.kIn M.makes M.init (beq_iff_eq.mp M.fn) (codeAny_mono (F.run _ X.stack _ _ ⟨Value.ref (s.heap.objs.size + 1) :: us, []⟩ (Value.ref (s.heap.objs.size + 1) :: (us ++ ds)) _ _ (E σ) (hr.make C us [])
    (I2.env0.make C us []) (hb _ (Value.ref (s.heap.objs.size + 1) :: us) I2.kIn hl) r2 hq) fun r s' hq' => ?_))
  cases r with
  | error e => exact hx pins _ _ e s' I2 hq'
  | ok fl =>
    cases fl with
    | ret u =>
      obtain ⟨v, H', I3, rv, ev, q3⟩ := I2.after hq'
      subst ev
      exact ⟨rv, ⟨V.ref (s.heap.objs.size + 1), H', I3, rfl, q3⟩⟩
    | next => exact False.elim hq'
    | brk => exact False.elim hq'
    | cont => exact False.elim hq'
def tMk (C : Addr) (n : Nat) (S : SpecD) (dd : List D) (W : WX) (t : TA) : TE := fun σ H Q => t σ H fun vs H1 => ∀ x dx, H1 x = none → H1 dx = none → dx ≠ x →
  spD n S (.ref x :: (vs ++ dd.map ofD)) (upd (upd H1 dx (.own x)) x (.ins C dx [])) (fun v H2 => v = .non ∧ Q (.ref x) H2) (WE W σ)
theorem pe_mak (c : Mak (Gx.of X) k x C n S dd) (hr : Room j X.A) (hk : k + 1 ≤ j) (tk : L2N.Takes X W) (hg : Gl X x) (ha : PA X (e :: es) t)
    (hdb : (x == ("__debug__" : Str)) = false := by decide) (he : starEach (e :: es) X.env = (false, eval e X.env) :: starEach es X.env := by rfl) (hpl : (backTo pos (starEach es X.env)).any (·.1) = false := by rfl) :
    PE X (.Call (.Name x p) (e :: es) [] pos) (tMk C n S dd W t) := by
  obtain ⟨f, ⟨⟨fd, ps, ds, F, b, d⟩, cs⟩, M⟩ := c.ex
  refine ⟨fun pins s σ H Q I h => ?_⟩
  refine wpAny_Call_Name_kw (ld_glob I hg c.mgC ?_ hdb)
  refine PySem.W.callWith_K (h₀ := X.base) I.ok.mod.kin M.kp (thn (ha.run pos pins s σ H _ I h) fun us s1 ⟨vs, H1, I1, r, q⟩ => ⟨I1.kIn, ?_⟩) he hpl
  exact run_makeS (E := WE W) M F (hr.mono hk) b d (L2N.passAt tk σ) I1 r q
theorem pe_mak0 (c : Mak (Gx.of X) k x C n S dd) (hr : Room j X.A) (hk : k + 1 ≤ j) (tk : L2N.Takes X W) (hg : Gl X x) (hdb : (x == ("__debug__" : Str)) = false := by decide) :
    PE X (.Call (.Name x p) [] [] pos) (tMk C n S dd W tNil) := by
  obtain ⟨f, ⟨⟨fd, ps, ds, F, b, d⟩, cs⟩, M⟩ := c.ex
  refine ⟨fun pins s σ H Q I h => ?_⟩
  refine wpAny_Call_Name_kw (ld_glob I hg c.mgC ?_ hdb)
  exact PySem.W.callWith_K0 I.kIn M.kp (run_makeS (E := WE W) (us := []) M F (hr.mono hk) b d (L2N.passAt tk σ) I .nil h)
/-- a new instance that stays as __init__ leaves it -/
theorem we_mk (cs : dd.all isC = true) (h : Wa W E t r m fun ds m1 => (ds ++ dd).length + 1 = n ∧ ∀ x, ¬ dom m1 x →
    S (.ref x :: (ds ++ dd)) ((x, .ins C [] []) :: m1) (fun d m2 => ∃ ns fs, d = .non ∧ m2 = (x, .ins C ns fs) :: m1 ∧ K (.ins C ns fs) m1) fun ex m2 => ∃ o, m2 = (x, o) :: m1 ∧ E ex r m1) : We W E (tMk C n S dd W t) r m K := fun s H Q e z g =>
  h s H _ e z fun ds m1 vs H1 st mu rs q x dx hx hdx hne => by
    have hn1 : upd H1 dx (.own x) x = none := by rw [upd_ne (Ne.symm hne)]; exact hx
    have s1 : Stp (dom m1) H1 (dom m1) (upd H1 dx (.own x)) := Stp.new hdx
    have mu1 : MutR m1 (upd H1 dx (.own x)) := mu.new hdx
    have s2 : Stp (dom m1) (upd H1 dx (.own x)) (dom ((x, .ins C [] []) :: m1)) (upd (upd H1 dx (.own x)) x (.ins C dx [])) := Stp.newM hn1
    have mu2 : MutR ((x, .ins C [] []) :: m1) (upd (upd H1 dx (.own x)) x (.ins C dx [])) := mu1.newM hn1 (.ins upd_same .nil)
    have nd : ¬ dom m1 x := mu2.notin
    refine ⟨.ref x :: (ds ++ dd), _, _, _, by rw [List.length_cons]; exact q.1, .cons (.ref x) ((rs.append (reps_c cs)).mono (s1.trans s2)), mu2, q.2 x nd, ?_, ?_⟩
    · rintro d m' v H' a b c ⟨ns, fs, rfl, rfl, k⟩
      cases c
      refine ⟨rfl, ?_⟩
      have at1 := (At.head (m := m1) (p := x) (o := .ins C ns fs)).rep b
      have ls : Stp (dom ((x, MO.ins C ns fs) :: m1)) H' (dom m1) H' := Stp.less fun a z => dom_cons.mpr (.inr z)
      cases at1 with
      | ins hh rf => exact g _ m1 _ H' (st.trans ((s1.trans s2).trans (a.trans ls))) b.drop (.ins nd hh (rf.mono ls)) k
    · rintro ex m' cls dd' H' a b c ⟨o, rfl, k⟩
      have ls : Stp (dom ((x, o) :: m1)) H' (dom m1) H' := Stp.less fun a z => dom_cons.mpr (.inr z)
      have tot := st.trans ((s1.trans s2).trans (a.trans ls))
      exact z ex r m1 cls dd' s H' tot (e.step tot b.drop) (c.mono ls) k
end

/-! ### bodies -/
abbrev cxG (G : Gx) (N : List Str) (qual : Str) (st : Stmt) (f : Addr) (cdv : Value) (A : Around) (outer : List Env) (s : Shared) (H : Hp) (F : XK) : Cx := cxOf (L2N.CX G.P G.w) G.P G.w G.K G.mg G.base N qual (defScope st) f cdv A outer s H F
abbrev wF (F : XK) : WX := fun cls d _ H => F cls d H
abbrev eF (E : Ex → Mu → Prop) : ET := fun x _ m => E x m
abbrev pF (K : KT) : DEnds := { nx := fun _ m => K .non m, rt := K }
/-- a promise is kept by the body of the def -/
abbrev FunW (K : PySem.W.Frag) (x qual : Str) (st : Stmt) (dvs : List V) (f : Addr) (fd : FuncData) : Prop := FunD K x qual (defArgs st) (defBody st) (defScope st) dvs [] f fd
theorem funW_of {K : PySem.W.Frag} {x qual : Str} {st : Stmt} {f : Addr} {fd : FuncData} (F : L2.Fun K x qual st f fd) : FunW K x qual st [] f fd := by
  have kp := F.kp
  obtain ⟨oc, od, kV, doc, pm, an, cdv, ct, osl, rfl, lk, hcd⟩ := F.ex
  exact ⟨⟨oc, od, _, kV, doc, pm, an, cdv, ct, osl, rfl, lk, hcd, .inl ⟨rfl, rfl⟩, .inl rfl⟩, kp⟩
theorem fnok_ofD {G : Gx} {xn qual : Str} {st : Stmt} {f : Addr} {fd : FuncData} {N ps : List Str} {k n : Nat} {S : SpecD} {dvs : List V} (F : FunW G.K xn qual st dvs f fd) (Sc : FnScope N ps (defScope st)) (hn : ps.length = n)
    (h : ∀ (cdv : Value) (A : Around) (outer : List Env) (s : Shared) (H : Hp) (F : XK), Room k (cxG G N qual st f cdv A outer s H F).A → L2N.Takes (cxG G N qual st f cdv A outer s H F) (wF F) →
      ∃ t, PSs (cxG G N qual st f cdv A outer s H F) (defBody st) t ∧ ∀ ds m K E, ds.length = n → S ds m K E → Ws (wF F) (eF E) t (ds.map some ++ List.replicate (N.length - n) none) m (pF K)) : FnOk G.P G.w G.K G.mg G.base (L2N.CX G.P G.w) (k + 1) f fd ps (spD n S) := by
  obtain ⟨oc, od, dV, kV, doc, pm, an, cdv, ct, osl, rfl, lk, hcd, _, _⟩ := F.ex
  refine fn_of lk hcd Sc (fun vs H Q E q => ?_) (fun A outer s H vs Q E hr q => ?_)
  · obtain ⟨ds, m, K, E, h1, h2, _⟩ := q
    rw [← h2.length, h1, hn]
  · obtain ⟨ds, m, K, E', h1, h2, mu, hs, g, gx⟩ := q
    obtain ⟨t, ht, hw⟩ := h cdv A outer s H E hr (L2N.takes_of rfl rfl rfl rfl)
    refine ⟨t, ht, hw ds m K E' h1 hs _ H _ ⟨?_, mu⟩ ?_ ?_⟩
    · have e : vs.length = n := by rw [← h2.length, h1]
      unfold L2.start
      rw [e]
      exact ROs.start _ h2
    · intro x r' m' cls dd s' H' a b c q
      exact gx x m' cls dd H' a b.mu c q
    · exact ⟨fun r' m' s' H' a b q => g _ m' _ H' a b.mu .non q, fun d m' v H' a b c q => g d m' v H' a b c q, fun _ _ _ _ _ _ q => q, fun _ _ _ _ _ _ q => q⟩
theorem fnok_of {G : Gx} {xn qual : Str} {st : Stmt} {f : Addr} {fd : FuncData} {N ps : List Str} {k n : Nat} {S : SpecD} (F : L2.Fun G.K xn qual st f fd) (Sc : FnScope N ps (defScope st)) (hn : ps.length = n)
    (h : ∀ (cdv : Value) (A : Around) (outer : List Env) (s : Shared) (H : Hp) (F : XK), Room k (cxG G N qual st f cdv A outer s H F).A → L2N.Takes (cxG G N qual st f cdv A outer s H F) (wF F) →
      ∃ t, PSs (cxG G N qual st f cdv A outer s H F) (defBody st) t ∧ ∀ ds m K E, ds.length = n → S ds m K E → Ws (wF F) (eF E) t (ds.map some ++ List.replicate (N.length - n) none) m (pF K)) : FnOk G.P G.w G.K G.mg G.base (L2N.CX G.P G.w) (k + 1) f fd ps (spD n S) := fnok_ofD (funW_of F) Sc hn h
theorem fnx_ofD {G : Gx} {xn qual : Str} {st : Stmt} {f : Addr} {fd : FuncData} {N ps : List Str} {k n : Nat} {S : SpecD} {dvs : List V} {dd : List D} {ds : List Value} (F : FunW G.K xn qual st dvs f fd) (Sc : FnScope N ps (defScope st)) (hn : ps.length = n)
    (b : Binds G.K fd ps ds) (d : Vals (dd.map ofD) ds) (cs : dd.all isC = true)
    (h : ∀ (cdv : Value) (A : Around) (outer : List Env) (s : Shared) (H : Hp) (F : XK), Room k (cxG G N qual st f cdv A outer s H F).A → L2N.Takes (cxG G N qual st f cdv A outer s H F) (wF F) →
      ∃ t, PSs (cxG G N qual st f cdv A outer s H F) (defBody st) t ∧ ∀ ds m K E, ds.length = n → S ds m K E → Ws (wF F) (eF E) t (ds.map some ++ List.replicate (N.length - n) none) m (pF K)) : Fnx G (k + 1) f n S dd := ⟨⟨_, ps, ds, fnok_ofD F Sc hn h, b, d⟩, cs⟩
theorem fnx_of {G : Gx} {xn qual : Str} {st : Stmt} {f : Addr} {fd : FuncData} {N ps : List Str} {k n : Nat} {S : SpecD} {dd : List D} {ds : List Value} (F : L2.Fun G.K xn qual st f fd) (Sc : FnScope N ps (defScope st)) (hn : ps.length = n)
    (b : Binds G.K fd ps ds) (d : Vals (dd.map ofD) ds) (cs : dd.all isC = true)
    (h : ∀ (cdv : Value) (A : Around) (outer : List Env) (s : Shared) (H : Hp) (F : XK), Room k (cxG G N qual st f cdv A outer s H F).A → L2N.Takes (cxG G N qual st f cdv A outer s H F) (wF F) →
      ∃ t, PSs (cxG G N qual st f cdv A outer s H F) (defBody st) t ∧ ∀ ds m K E, ds.length = n → S ds m K E → Ws (wF F) (eF E) t (ds.map some ++ List.replicate (N.length - n) none) m (pF K)) : Fnx G (k + 1) f n S dd := fnx_ofD (funW_of F) Sc hn b d cs h
/-! ### defs called within an except suite: nothing is raised -/
structure CalH (G : Gx) (k : Nat) (x : Str) (n : Nat) (S : SpecD) : Prop where
  ex : ∃ (f : Addr) (fd : FuncData) (ps : List Str), L2H.FnH G.P G.w G.K G.mg G.base (L2N.CX G.P G.w) k f fd ps (spD n S) ∧ Binds G.K fd ps [] ∧ G.mg x = some (.ref f) ∧ PySem.W.keepIn G.K (.ref f) = true
abbrev cxGH (G : Gx) (N : List Str) (qual : Str) (st : Stmt) (f : Addr) (cdv : Value) (A : Around) (outer : List Env) (s : Shared) (H : Hp) (F : XK) (p : Addr × Obj) : Cx := L2H.cxH (L2N.CX G.P G.w) G.P G.w G.K G.mg G.base N qual (defScope st) f cdv A outer s H F p
theorem calH_of {G : Gx} {x : Str} {st : Stmt} {f : Addr} {fd : FuncData} {N ps : List Str} {k n : Nat} {S : SpecD} (F : L2.Fun G.K x x st f fd) (hm : G.mg x = some (.ref f)) (Sc : FnScope N ps (defScope st)) (hn : ps.length = n)
    (b : Binds G.K fd ps [])
    (h : ∀ (cdv : Value) (A : Around) (outer : List Env) (s : Shared) (H : Hp) (F : XK) (p : Addr × Obj), L2H.Hot1 A p → L2H.RoomH k (cxGH G N x st f cdv A outer s H F p).A → L2N.Takes (cxGH G N x st f cdv A outer s H F p) (wF F) →
      ∃ t, PSs (cxGH G N x st f cdv A outer s H F p) (defBody st) t ∧ ∀ ds m K E, ds.length = n → S ds m K E → Ws (wF F) (eF E) t (ds.map some ++ List.replicate (N.length - n) none) m (pF K)) : CalH G (k + 1) x n S := by
  have kp := F.kp
  obtain ⟨oc, od, kV, doc, pm, an, cdv, ct, osl, rfl, lk, hcd⟩ := F.ex
  refine ⟨f, _, ps, L2H.fn_ofH lk hcd Sc (fun vs H Q E q => ?_) (fun A outer s H vs Q E p hot hr q => ?_), b, hm, kp⟩
  · obtain ⟨ds, m, K, E, h1, h2, _⟩ := q
    rw [← h2.length, h1, hn]
  · obtain ⟨ds, m, K, E', h1, h2, mu, hs, g, gx⟩ := q
    obtain ⟨t, ht, hw⟩ := h cdv A outer s H E p hot hr (L2N.takes_of rfl rfl rfl rfl)
    refine ⟨t, ht, hw ds m K E' h1 hs _ H _ ⟨?_, mu⟩ ?_ ?_⟩
    · have e : vs.length = n := by rw [← h2.length, h1]
      unfold L2.start
      rw [e]
      exact ROs.start _ h2
    · intro x r' m' cls dd s' H' a b c q
      exact gx x m' cls dd H' a b.mu c q
    · exact ⟨fun r' m' s' H' a b q => g _ m' _ H' a b.mu .non q, fun d m' v H' a b c q => g d m' v H' a b c q, fun _ _ _ _ _ _ q => q, fun _ _ _ _ _ _ q => q⟩
section
variable {X : Cx} {W : WX} {E : ET} {r : Rho} {m : Mu} {K : KT} {S : SpecD} {x : Str} {k j n : Nat} {e : Expr} {es : List Expr} {t : TA} {p pos : Pos}
def tClH (n : Nat) (S : SpecD) (W : WX) (t : TA) : TE := tCallS (spD n S) (WE W) t
theorem pe_clH (c : CalH (Gx.of X) k x n S) (hr : L2H.RoomH j X.A) (hk : k ≤ j) (hc : L2H.HotC X) (tk : L2N.Takes X W) (hg : Gl X x) (ha : PA X (e :: es) t)
    (hdb : (x == ("__debug__" : Str)) = false := by decide) (he : starEach (e :: es) X.env = (false, eval e X.env) :: starEach es X.env := by rfl) (hpl : (backTo pos (starEach es X.env)).any (·.1) = false := by rfl) :
    PE X (.Call (.Name x p) (e :: es) [] pos) (tClH n S W t) := by
  obtain ⟨f, fd, ps, F, b, hm, kp⟩ := c.ex
  exact L2H.pe_callH F (hr.mono hk) hc hg hm kp b (L2N.passAt tk) ha hdb he hpl
theorem we_clH (h : Wa W E t r m fun ds m1 => ds.length = n ∧ S ds m1 K fun x m' => E x r m') : We W E (tClH n S W t) r m K := fun s H Q e z g =>
  h s H _ e z fun ds m1 vs H1 st mu rs q => spD_of q.1 (e.step st mu) (z.step st) (g.step st) rs q.2 fun _ _ q => q
end
end DL
set_option Elab.async false
set_option linter.all false
set_option maxRecDepth 100000
/-! DL4: operators. -/
namespace DL
open PySem PySem.Spec L2
open PyProof.Rows hiding St

/-! ### an own class's operator -/
/-- the class at C takes the special method nm: n values, the promise S -/
structure Opr (G : Gx) (k : Nat) (C : Addr) (nm : Str) (n : Nat) (S : SpecD) : Prop where
  ex : ∃ f, Fnx G k f n S [] ∧ PySem.W.findIn G.K (.ref C) nm = some (some (.ref f)) ∧ PySem.W.isFn G.K (.ref f) = true
  cl : Cls G.K C
  sf : PySem.W.selfFirst G.K C = true
theorem back_of {X : Cx} {pins : List (Addr × Obj)} {σ : L2.St} {Q : VK} {u : Value} {s : Shared} (h : EP X pins σ Q u s) : PySem.W.CmpBack (EP X pins σ Q) u s := by
  obtain ⟨v, H, I, r, q⟩ := id h
  cases u <;> first | exact h | (cases v <;> first | (obtain ⟨t, e⟩ := r; cases e) | cases r)
section
variable {X : Cx} {W : WX} {j : Nat}
def oOwn2 (G : Gx) (j : Nat) (W : WX) (nm : Str) : O2 := fun x y σ H Q => ∃ (a b C dx dy : Addr) (fs gs : List (Str × V)) (k : Nat) (S : SpecD), x = .ref a ∧ y = .ref b ∧ H a = some (.ins C dx fs) ∧ H b = some (.ins C dy gs) ∧ k ≤ j ∧ Opr G k C nm 2 S ∧ spD 2 S [x, y] H Q (WE W σ)
theorem inst_of {pins : List (Addr × Obj)} {σ : L2.St} {H : Hp} {s : Shared} {a C dx : Addr} {fs : List (Str × V)} (I : Inv X pins σ H s) (e : H a = some (.ins C dx fs)) : ∃ od, PySem.W.InstAt s.heap a (PySem.W.instObj C dx) C od := by
  obtain ⟨mA, O, _⟩ := ins_get I.hok e
  obtain ⟨od, J, _⟩ := O.look
  exact ⟨_, J⟩
theorem os_own2 (hr : Room j X.A) (tk : L2N.Takes X W) {op : Operator} : OpS X (binaryOp op) (oOwn2 (Gx.of X) j W (PySem.dunder op.info.2)) := by
  intro pins s σ H x y u v Q I rx ry h
  obtain ⟨a, b, C, dx, dy, fs, gs, k, S, rfl, rfl, ha, hb, hk, O, q⟩ := h
  obtain rfl : u = Value.ref a := rx
  obtain rfl : v = Value.ref b := ry
  obtain ⟨f, ⟨⟨fd, ps, ds, F, bd, d⟩, cs⟩, h1, h2⟩ := O.ex
  obtain ⟨od, J⟩ := inst_of I ha
  obtain ⟨od', J'⟩ := inst_of I hb
  obtain ⟨m, fr⟩ := I.fr
  refine PySem.W.binop_K fr I.ok.mod.kin J J'.type O.sf h1 h2 ?_
  refine wpAny_mono (run_fnSD (E := WE W) (us := [.ref a, .ref b]) (vs := [.ref a, .ref b]) F (hr.mono hk) bd d (L2N.passAt tk σ) I (.cons rfl (.cons rfl .nil)) q) (fun r s' hq => back_of hq) fun _ _ z => z
def oOwn1 (G : Gx) (j : Nat) (W : WX) (nm : Str) : O1 := fun x σ H Q => ∃ (a C dx : Addr) (fs : List (Str × V)) (k : Nat) (S : SpecD), x = .ref a ∧ H a = some (.ins C dx fs) ∧ k ≤ j ∧ Opr G k C nm 1 S ∧ spD 1 S [x] H Q (WE W σ)
theorem us_own (hr : Room j X.A) (tk : L2N.Takes X W) : UnS X (unaryOp .USub) (oOwn1 (Gx.of X) j W "__neg__") := by
  intro pins s σ H x u Q I rx h
  obtain ⟨a, C, dx, fs, k, S, rfl, ha, hk, O, q⟩ := h
  obtain rfl : u = Value.ref a := rx
  obtain ⟨f, ⟨⟨fd, ps, ds, F, bd, d⟩, cs⟩, h1, h2⟩ := O.ex
  obtain ⟨od, J⟩ := inst_of I ha
  obtain ⟨m, fr⟩ := I.fr
  exact PySem.W.ksp_neg fr I.ok.mod.kin J h1 h2 (run_fnSD (E := WE W) (us := [.ref a]) (vs := [.ref a]) F (hr.mono hk) bd d (L2N.passAt tk σ) I (.cons rfl .nil) q)

/-! ### the operators as unions -/
def CDivX (i j : Int) : Prop := j ≠ 0 ∧ (j.natAbs.log2 < 9000 ∨ i.natAbs.log2 ≤ j.natAbs.log2 + 4000)
theorem CDivX.no {i j : Int} (h : CDivX i j) : Builtin.divisionGoesByPylong i j = false := by
  rcases h.2 with q | q
  · exact PyProof.noPylong_of_log2 q
  · have e : (j == 0) = false := by simpa using h.1
    have key : (if i == 0 then 0 else i.natAbs.log2 / 30 + 1) ≤ (if j == 0 then 0 else j.natAbs.log2 / 30 + 1) + 150 := by
      rw [e]
      by_cases hi : (i == 0) = true
      · rw [if_pos hi]
        exact Nat.zero_le _
      · rw [if_neg hi]
        show i.natAbs.log2 / 30 + 1 ≤ j.natAbs.log2 / 30 + 1 + 150
        omega
    show (_ && decide (_ > _)) = false
    rw [decide_eq_false (Nat.not_lt.mpr key), Bool.and_false]
theorem op_fdivX : OpR X (binaryOp .FloorDiv) (rI CDivX fun i j => .int (i.fdiv j)) := opI fun i j _ _ _ _ _ hc q => PyProof.Rows.floordiv_int hc.1 q (.inl hc.no)
def CMulX (i j : Int) : Prop := i.natAbs.log2 + j.natAbs.log2 < 100000000
theorem CMulX.ok {i j : Int} (h : CMulX i j) : IntMulOk i j := by
  have b : ∀ x : Int, Builtin.Int.intBits x ≤ x.natAbs.log2 + 1 := fun x => by
    unfold Builtin.Int.intBits
    split <;> omega
  have h1 := b i
  have h2 := b j
  have h3 : i.natAbs.log2 + j.natAbs.log2 < 100000000 := h
  have e : bitsLine = 134217728 := by decide
  unfold IntMulOk
  intro z
  rw [Bool.and_eq_true] at z
  have z2 := z.2
  unfold Builtin.Int.intTooBig at z2
  have z3 := of_decide_eq_true z2
  rw [e] at z3
  omega
theorem op_mulX : OpR X (binaryOp .Mult) (rI CMulX fun i j => .int (i * j)) := opI fun _ _ _ _ _ _ _ hc q => PyProof.Rows.mul_int q hc.ok
def rStrAdd : R2 := fun x y H Q => ∃ i j, x = .str i ∧ y = .str j ∧ i.length + j.length ≤ sizeLine ∧ Q (.str (i ++ j)) H
/-- two lists joined -/
def rCatR : R2 := fun x y H Q => ∃ l b xs zs, x = .ref l ∧ y = .ref b ∧ Rd H l (.lst xs) ∧ Rd H b (.lst zs) ∧ xs.length + zs.length ≤ sizeLine ∧ ∀ p, H p = none → Q (.ref p) (upd H p (.lst (xs ++ zs)))
theorem op_catR : OpR X (binaryOp .Add) rCatR := by
  intro pins s σ H x y v u Q I rx ry h
  obtain ⟨l, b, xs, zs, rfl, rfl, hH, hB, hz, q⟩ := h
  cases rx
  cases ry
  obtain ⟨z, its, n, r, e⟩ := hH.ok I.hok
  obtain ⟨z2, its2, n2, r2, e2⟩ := hB.ok I.hok
  have hl := r.length
  have hl2 := r2.length
  refine PySem.P.add_list e e2 ?_ (by rw [List.size_toArray, List.size_toArray]; omega)
  have ea : its.toArray ++ its2.toArray = (its ++ its2).toArray := by simp
  rw [ea]
  exact ⟨.ref _, _, I.lnew (t' := s.toks) (r.append r2) (by rw [List.length_append]; omega), rfl, q _ I.fresh⟩
def oAdd (G : Gx) (j : Nat) (W : WX) : O2 := fun x y s H Q => rI0 (fun i j => .int (i + j)) x y H Q ∨ (rStrAdd x y H Q ∨ (rCatR x y H Q ∨ (rCatT G.K x y H Q ∨ oOwn2 G j W "__add__" x y s H Q)))
theorem os_add (hr : Room j X.A) (tk : L2N.Takes X W) : OpS X (binaryOp .Add) (oAdd (Gx.of X) j W) := (OpS.of op_add).or ((OpS.of op_add_str).or ((OpS.of op_catR).or ((OpS.of op_catT).or (os_own2 hr tk))))
def oSub (G : Gx) (j : Nat) (W : WX) : O2 := fun x y s H Q => rI0 (fun i j => .int (i - j)) x y H Q ∨ oOwn2 G j W "__sub__" x y s H Q
theorem os_sub (hr : Room j X.A) (tk : L2N.Takes X W) : OpS X (binaryOp .Sub) (oSub (Gx.of X) j W) := (OpS.of op_sub).or (os_own2 hr tk)
def oMul (G : Gx) (j : Nat) (W : WX) : O2 := fun x y s H Q => rI CMulX (fun i j => .int (i * j)) x y H Q ∨ (rRep x y H Q ∨ oOwn2 G j W "__mul__" x y s H Q)
theorem os_mul (hr : Room j X.A) (tk : L2N.Takes X W) : OpS X (binaryOp .Mult) (oMul (Gx.of X) j W) := (OpS.of op_mulX).or ((OpS.of op_rep).or (os_own2 hr tk))
def oFdiv : O2 := fun x y _ H Q => rI CDivX (fun i j => .int (i.fdiv j)) x y H Q
theorem os_fdiv : OpS X (binaryOp .FloorDiv) oFdiv := OpS.of op_fdivX
def oMod : O2 := fun x y _ H Q => rI (fun _ j => j ≠ 0) (fun i j => .int (i.fmod j)) x y H Q
theorem os_mod : OpS X (binaryOp .Mod) oMod := OpS.of op_modN
def oPow : O2 := fun x y _ H Q => rI CPow (fun i j => .int (i ^ j.toNat)) x y H Q
theorem os_pow : OpS X (binaryOp .Pow) oPow := OpS.of op_pow
def oNeg (G : Gx) (j : Nat) (W : WX) : O1 := fun x s H Q => rU (fun i => .int (-i)) x H Q ∨ oOwn1 G j W "__neg__" x s H Q
theorem us_neg (hr : Room j X.A) (tk : L2N.Takes X W) : UnS X (unaryOp .USub) (oNeg (Gx.of X) j W) := (UnS.of un_neg).or (us_own hr tk)
/-! comparisons -/
def oLt : O2 := fun x y _ H Q => rI0 (fun i j => .bl (decide (i < j))) x y H Q
def oLe : O2 := fun x y _ H Q => rI0 (fun i j => .bl (decide (i ≤ j))) x y H Q
def oGt : O2 := fun x y _ H Q => rI0 (fun i j => .bl (decide (j < i))) x y H Q
def oGe : O2 := fun x y _ H Q => rI0 (fun i j => .bl (decide (j ≤ i))) x y H Q
theorem os_lt : OpS X (compareOp .Lt) oLt := OpS.of op_lt
theorem os_le : OpS X (compareOp .LtE) oLe := OpS.of op_le
theorem os_gt : OpS X (compareOp .Gt) oGt := OpS.of op_gt
theorem os_ge : OpS X (compareOp .GtE) oGe := OpS.of op_ge
def rIsN' : R2 := fun x y H Q => y = .non ∧ Q (.bl (decide (x = .non))) H
def rNotN' : R2 := fun x y H Q => y = .non ∧ Q (.bl (!decide (x = .non))) H
def oIs : O2 := fun x y _ H Q => rIsN' x y H Q ∨ rIsB x y H Q
def oIsNot : O2 := fun x y _ H Q => rNotN' x y H Q ∨ rNotB x y H Q
theorem os_is : OpS X (compareOp .Is) oIs := OpS.or (OpS.of op_isN) (OpS.of op_isBl)
theorem os_isnot : OpS X (compareOp .IsNot) oIsNot := OpS.or (OpS.of op_notN) (OpS.of op_notBl)
def oEq (G : Gx) (j : Nat) (W : WX) : O2 := fun x y _ H Q => rEq x y H Q
def oNe (G : Gx) (j : Nat) (W : WX) : O2 := fun x y _ H Q => rNe x y H Q
theorem os_eq (hr : Room j X.A) (tk : L2N.Takes X W) : OpS X (compareOp .Eq) (oEq (Gx.of X) j W) := OpS.of op_eq
theorem os_ne (hr : Room j X.A) (tk : L2N.Takes X W) : OpS X (compareOp .NotEq) (oNe (Gx.of X) j W) := OpS.of op_ne
/-! .. within an except suite: numbers, texts alone -/
def oEqH : O2 := fun x y _ H Q => rEq x y H Q
def oNeH : O2 := fun x y _ H Q => rNe x y H Q
theorem os_eqH : OpS X (compareOp .Eq) oEqH := OpS.of op_eq
theorem os_neH : OpS X (compareOp .NotEq) oNeH := OpS.of op_ne
def oMulH : O2 := fun x y _ H Q => rI CMulX (fun i j => .int (i * j)) x y H Q
theorem os_mulH : OpS X (binaryOp .Mult) oMulH := OpS.of op_mulX
def oAddH : O2 := fun x y _ H Q => rI0 (fun i j => .int (i + j)) x y H Q
theorem os_addH : OpS X (binaryOp .Add) oAddH := OpS.of op_add
def oSubH : O2 := fun x y _ H Q => rI0 (fun i j => .int (i - j)) x y H Q
theorem os_subH : OpS X (binaryOp .Sub) oSubH := OpS.of op_sub
def oNegH : O1 := fun x _ H Q => rU (fun i => .int (-i)) x H Q
theorem us_negH : UnS X (unaryOp .USub) oNegH := UnS.of un_neg
end

/-! ### what they do to trees -/
section
variable {W : WX} {E : ET} {r : Rho} {m : Mu} {K : KT} {G : Gx} {j : Nat} {i k : Int} {te ta tb tc : TE} {t : TA} {o o' : O2} {o1 : O1} {oc : OC}
theorem w2_val {o : O2} {x y d : D} {vx vy v : V} (hx : ∀ M H w, Rep M H x w → w = vx) (hy : ∀ M H w, Rep M H y w → w = vy) (hd : ∀ M H, Rep M H d v) (ho : ∀ s H (Q : VK), Q v H → o vx vy s H Q) (k : K d m) : W2 W E o x y r m K := fun s H Q a b e z ra rb g => by
  rw [hx _ _ _ ra, hy _ _ _ rb]
  exact ho s H Q (g d m v H (Stp.refl _ _) e.mu (hd _ _) k)
theorem rint {M : Addr → Prop} {H : Hp} {i : Int} {w : V} (h : Rep M H (.int i) w) : w = .int i := by cases h; rfl
theorem rstr {M : Addr → Prop} {H : Hp} {i : Str} {w : V} (h : Rep M H (.str i) w) : w = .str i := by cases h; rfl
theorem rbl {M : Addr → Prop} {H : Hp} {i : Bool} {w : V} (h : Rep M H (.bl i) w) : w = .bl i := by cases h; rfl
theorem rnon {M : Addr → Prop} {H : Hp} {w : V} (h : Rep M H .non w) : w = .non := by cases h; rfl
theorem w2_add (h : K (.int (i + k)) m) : W2 W E (oAdd G j W) (.int i) (.int k) r m K := w2_val (fun _ _ _ => rint) (fun _ _ _ => rint) (fun _ _ => .int _) (fun _ _ _ q => .inl ⟨i, k, rfl, rfl, q⟩) h
theorem w2_sub (h : K (.int (i - k)) m) : W2 W E (oSub G j W) (.int i) (.int k) r m K := w2_val (fun _ _ _ => rint) (fun _ _ _ => rint) (fun _ _ => .int _) (fun _ _ _ q => .inl ⟨i, k, rfl, rfl, q⟩) h
theorem w2_mul (h : CMulX i k ∧ K (.int (i * k)) m) : W2 W E (oMul G j W) (.int i) (.int k) r m K := w2_val (fun _ _ _ => rint) (fun _ _ _ => rint) (fun _ _ => .int _) (fun _ _ _ q => .inl ⟨i, k, rfl, rfl, h.1, q⟩) h.2
theorem w2_fdiv (h : CDivX i k ∧ K (.int (i.fdiv k)) m) : W2 W E oFdiv (.int i) (.int k) r m K := w2_val (fun _ _ _ => rint) (fun _ _ _ => rint) (fun _ _ => .int _) (fun _ _ _ q => ⟨i, k, rfl, rfl, h.1, q⟩) h.2
theorem w2_mod (h : k ≠ 0 ∧ K (.int (i.fmod k)) m) : W2 W E oMod (.int i) (.int k) r m K := w2_val (fun _ _ _ => rint) (fun _ _ _ => rint) (fun _ _ => .int _) (fun _ _ _ q => ⟨i, k, rfl, rfl, h.1, q⟩) h.2
theorem w2_pow (h : CPow i k ∧ K (.int (i ^ k.toNat)) m) : W2 W E oPow (.int i) (.int k) r m K := w2_val (fun _ _ _ => rint) (fun _ _ _ => rint) (fun _ _ => .int _) (fun _ _ _ q => ⟨i, k, rfl, rfl, h.1, q⟩) h.2
theorem w2_lt (h : K (.bl (decide (i < k))) m) : W2 W E oLt (.int i) (.int k) r m K := w2_val (fun _ _ _ => rint) (fun _ _ _ => rint) (fun _ _ => .bl _) (fun _ _ _ q => ⟨i, k, rfl, rfl, q⟩) h
theorem w2_le (h : K (.bl (decide (i ≤ k))) m) : W2 W E oLe (.int i) (.int k) r m K := w2_val (fun _ _ _ => rint) (fun _ _ _ => rint) (fun _ _ => .bl _) (fun _ _ _ q => ⟨i, k, rfl, rfl, q⟩) h
theorem w2_gt (h : K (.bl (decide (k < i))) m) : W2 W E oGt (.int i) (.int k) r m K := w2_val (fun _ _ _ => rint) (fun _ _ _ => rint) (fun _ _ => .bl _) (fun _ _ _ q => ⟨i, k, rfl, rfl, q⟩) h
theorem w2_ge (h : K (.bl (decide (k ≤ i))) m) : W2 W E oGe (.int i) (.int k) r m K := w2_val (fun _ _ _ => rint) (fun _ _ _ => rint) (fun _ _ => .bl _) (fun _ _ _ q => ⟨i, k, rfl, rfl, q⟩) h
theorem w2_eqI (h : K (.bl (decide (i = k))) m) : W2 W E (oEq G j W) (.int i) (.int k) r m K := w2_val (fun _ _ _ => rint) (fun _ _ _ => rint) (fun _ _ => .bl _) (fun _ _ _ q => ⟨rfl, by rw [dec_int, ← Bool.beq_eq_decide_eq] at *; exact q⟩) h
theorem w2_neI (h : K (.bl (!decide (i = k))) m) : W2 W E (oNe G j W) (.int i) (.int k) r m K := w2_val (fun _ _ _ => rint) (fun _ _ _ => rint) (fun _ _ => .bl _) (fun _ _ _ q => ⟨rfl, by rw [dec_int, ← Bool.beq_eq_decide_eq] at *; exact q⟩) h
theorem w2_eqIH (h : K (.bl (decide (i = k))) m) : W2 W E oEqH (.int i) (.int k) r m K := w2_val (fun _ _ _ => rint) (fun _ _ _ => rint) (fun _ _ => .bl _) (fun _ _ _ q => ⟨rfl, by rw [dec_int, ← Bool.beq_eq_decide_eq] at *; exact q⟩) h
theorem w2_neIH (h : K (.bl (!decide (i = k))) m) : W2 W E oNeH (.int i) (.int k) r m K := w2_val (fun _ _ _ => rint) (fun _ _ _ => rint) (fun _ _ => .bl _) (fun _ _ _ q => ⟨rfl, by rw [dec_int, ← Bool.beq_eq_decide_eq] at *; exact q⟩) h
theorem w2_mulH (h : CMulX i k ∧ K (.int (i * k)) m) : W2 W E oMulH (.int i) (.int k) r m K := w2_val (fun _ _ _ => rint) (fun _ _ _ => rint) (fun _ _ => .int _) (fun _ _ _ q => ⟨i, k, rfl, rfl, h.1, q⟩) h.2
theorem w2_addH (h : K (.int (i + k)) m) : W2 W E oAddH (.int i) (.int k) r m K := w2_val (fun _ _ _ => rint) (fun _ _ _ => rint) (fun _ _ => .int _) (fun _ _ _ q => ⟨i, k, rfl, rfl, q⟩) h
theorem w2_subH (h : K (.int (i - k)) m) : W2 W E oSubH (.int i) (.int k) r m K := w2_val (fun _ _ _ => rint) (fun _ _ _ => rint) (fun _ _ => .int _) (fun _ _ _ q => ⟨i, k, rfl, rfl, q⟩) h
theorem w1_negH (h : K (.int (-i)) m) : W1 W E oNegH (.int i) r m K := fun s H Q v e z rv g => by
  cases rv
  exact ⟨i, rfl, g _ m _ H (Stp.refl _ _) e.mu (.int _) h⟩
def isNon : D → Bool
  | .non => true
  | _ => false
theorem rep_non {M : Addr → Prop} {H : Hp} {d : D} {v : V} (h : Rep M H d v) : decide (v = V.non) = isNon d := by
  cases h <;> rfl
theorem w2_isN {d : D} (h : K (.bl (isNon d)) m) : W2 W E oIs d .non r m K := fun s H Q a b e z ra rb g => by
  cases rb
  exact .inl ⟨rfl, g _ m _ H (Stp.refl _ _) e.mu (by rw [rep_non ra]; exact .bl _) h⟩
theorem w2_notN {d : D} (h : K (.bl (!isNon d)) m) : W2 W E oIsNot d .non r m K := fun s H Q a b e z ra rb g => by
  cases rb
  exact .inl ⟨rfl, g _ m _ H (Stp.refl _ _) e.mu (by rw [rep_non ra]; exact .bl _) h⟩
theorem w2_isB {a b : Bool} (h : K (.bl (decide (a = b))) m) : W2 W E oIs (.bl a) (.bl b) r m K := w2_val (fun _ _ _ => rbl) (fun _ _ _ => rbl) (fun _ _ => .bl _) (fun _ _ _ q => .inr ⟨a, b, rfl, rfl, q⟩) h
theorem w2_notB {a b : Bool} (h : K (.bl (!decide (a = b))) m) : W2 W E oIsNot (.bl a) (.bl b) r m K := w2_val (fun _ _ _ => rbl) (fun _ _ _ => rbl) (fun _ _ => .bl _) (fun _ _ _ q => .inr ⟨a, b, rfl, rfl, q⟩) h
theorem w1_neg (h : K (.int (-i)) m) : W1 W E (oNeg G j W) (.int i) r m K := fun s H Q v e z rv g => by
  cases rv
  exact .inl ⟨i, rfl, g _ m _ H (Stp.refl _ _) e.mu (.int _) h⟩
/-- the fields of an instance, fixed or mutable -/
inductive FldD : D → Mu → Addr → List Str → List D → Prop
  | fixed {m : Mu} {C : Addr} {ns : List Str} {ds : List D} : FldD (.ins C ns ds) m C ns ds
  | mutb {m : Mu} {C a : Addr} {ns : List Str} {ds : List D} (h : At m a (.ins C ns ds)) : FldD (.ref a) m C ns ds
theorem FldD.look {d : D} {m : Mu} {C : Addr} {ns : List Str} {ds : List D} {H : Hp} {v : V} (i : FldD d m C ns ds) (mu : MutR m H) (rp : Rep (dom m) H d v) : ∃ a dx gs, v = .ref a ∧ H a = some (.ins C dx gs) ∧ RepF (dom m) H ns ds gs := by
  cases i with
  | fixed =>
    cases rp with
    | ins mm h rf => exact ⟨_, _, _, rfl, h, rf⟩
  | mutb h =>
    cases rp
    have q := h.rep mu
    cases q with
    | ins h rf => exact ⟨_, _, _, rfl, h, rf⟩
theorem w2_own {d d' : D} {C : Addr} {ns ns' : List Str} {ds ds' : List D} {nm : Str} {k : Nat} {S : SpecD} (O : Opr G k C nm 2 S) (hk : k ≤ j) (i : FldD d m C ns ds) (i' : FldD d' m C ns' ds')
    (h : S [d, d'] m K fun x m' => E x r m') : W2 W E (oOwn2 G j W nm) d d' r m K := fun s H Q a b e z ra rb g => by
  obtain ⟨p, dx, gs, rfl, hp, _⟩ := i.look e.mu ra
  obtain ⟨p', dx', gs', rfl, hp', _⟩ := i'.look e.mu rb
  exact ⟨p, p', C, dx, dx', gs, gs', k, S, rfl, rfl, hp, hp', hk, O, spD_of rfl e z g (.cons ra (.cons rb .nil)) h fun _ _ q => q⟩
theorem w1_own {d : D} {C : Addr} {ns : List Str} {ds : List D} {nm : Str} {k : Nat} {S : SpecD} (O : Opr G k C nm 1 S) (hk : k ≤ j) (i : FldD d m C ns ds)
    (h : S [d] m K fun x m' => E x r m') : W1 W E (oOwn1 G j W nm) d r m K := fun s H Q a e z ra g => by
  obtain ⟨p, dx, gs, rfl, hp, _⟩ := i.look e.mu ra
  exact ⟨p, C, dx, gs, k, S, rfl, hp, hk, O, spD_of rfl e z g (.cons ra .nil) h fun _ _ q => q⟩
end
end DL
set_option Elab.async false
set_option linter.all false
set_option maxRecDepth 100000
/-! DL5: expressions, tests, statements, loops over trees. -/
namespace DL
open PySem PySem.Spec L2
open PyProof.Rows hiding St

section
variable {W : WX} {E : ET} {r : Rho} {m : Mu} {K : KT} {G : Gx} {j : Nat} {te ta tb tc : TE} {t u : TT} {a : TA} {o o' : O2} {o1 : O1} {oc : OC} {KB : Bool → Mu → Prop} {KA : List D → Mu → Prop}
/-! ### arguments, displays -/
theorem wa_nil (h : KA [] m) : Wa W E tNil r m KA := fun s H Q e z g => g [] m [] H (Stp.refl _ _) e.mu .nil h
theorem wa_cons (h : We W E te r m fun d m1 => Wa W E a r m1 fun ds m2 => KA (d :: ds) m2) : Wa W E (tCons te a) r m KA := fun s H Q e z g =>
  h s H _ e z fun d m1 v H1 s1 mu1 r1 q1 => q1 s H1 _ (e.step s1 mu1) (z.step s1) fun ds m2 vs H2 s2 mu2 r2 q2 => g _ m2 _ H2 (s1.trans s2) mu2 (.cons (r1.mono s2) r2) q2
theorem size_of {n : Nat} (h : Nat.ble n 1000 = true) : n ≤ sizeLine := Nat.le_trans (Nat.le_of_ble_eq_true h) (by decide)
theorem we_tup (h : Wa W E a r m fun ds m1 => Nat.ble ds.length 1000 = true ∧ K (.tup ds) m1) : We W E (tTup a) r m K := fun s H Q e z g =>
  h s H _ e z fun ds m1 vs H1 s1 mu1 r1 q1 => ⟨by rw [← r1.length]; exact size_of q1.1, fun p hp =>
    g _ m1 _ _ (s1.trans (Stp.new hp)) (mu1.new hp) (.tup (fun z => by obtain ⟨u, hu⟩ := mu1.there z; rw [hp] at hu; cases hu) (.inl upd_same) (r1.mono (Stp.new hp))) q1.2⟩
theorem we_lst (h : Wa W E a r m fun ds m1 => Nat.ble ds.length 1000 = true ∧ K (.lst ds) m1) : We W E (tLst a) r m K := fun s H Q e z g =>
  h s H _ e z fun ds m1 vs H1 s1 mu1 r1 q1 => ⟨by rw [← r1.length]; exact size_of q1.1, fun p hp =>
    g _ m1 _ _ (s1.trans (Stp.new hp)) (mu1.new hp) (.lst (fun z => by obtain ⟨u, hu⟩ := mu1.there z; rw [hp] at hu; cases hu) (.inl upd_same) (r1.mono (Stp.new hp))) q1.2⟩
/-- a list that will be changed -/
theorem we_lstM (h : Wa W E a r m fun ds m1 => Nat.ble ds.length 1000 = true ∧ ∀ p, ¬ dom m1 p → K (.ref p) ((p, .lst ds) :: m1)) : We W E (tLst a) r m K := fun s H Q e z g =>
  h s H _ e z fun ds m1 vs H1 s1 mu1 r1 q1 => ⟨by rw [← r1.length]; exact size_of q1.1, fun p hp =>
    g _ _ _ _ (s1.trans (Stp.newM (x := .lst ds) hp)) (mu1.newM hp (.lst upd_same (r1.mono (Stp.newM hp)))) (.ref p) (q1.2 p fun z => by obtain ⟨u, hu⟩ := mu1.there z; rw [hp] at hu; cases hu)⟩

/-! ### fields -/
theorem we_fld {f : Str} (h : We W E te r m fun d m1 => ∃ C ns ds x, FldD d m1 C ns ds ∧ Cls G.K C ∧ NoAttr G.K C f ∧ fix f ns ds = some x ∧ K x m1) : We W E (tFld G.K te f) r m K := fun s H Q e z g =>
  h s H _ e z fun d m1 v H1 s1 mu1 r1 q => by
    obtain ⟨C, ns, ds, x, i, c, n, hf, k⟩ := q
    obtain ⟨p, dx, gs, rfl, hp, rf⟩ := i.look mu1 r1
    obtain ⟨y, h1, h2⟩ := rf.look hf
    exact ⟨p, C, dx, gs, y, rfl, hp, c, n, h1, g x m1 y H1 s1 mu1 h2 k⟩

/-! ### subscripts -/
theorem atI_reps {M : Addr → Prop} {H : Hp} {ds : List D} {vs : List V} {i : Int} {d : D} (h : Reps M H ds vs) (e : atI ds i = some d) : ∃ v, atI vs i = some v ∧ Rep M H d v := by
  unfold atI at *
  rw [h.length] at e
  cases q : ixN vs.length i with
  | none => rw [q] at e; cases e
  | some k =>
    rw [q] at e
    exact h.get e
abbrev oIx (G : Gx) : O2 := fun x y _ H Q => rIx G.K x y H Q
theorem rd_l {K : PySem.W.Frag} {H : Hp} {a : Addr} {vs : List V} (h : Rd H a (.lst vs)) : SqL K H a vs := .inl h
theorem rd_t {K : PySem.W.Frag} {H : Hp} {a : Addr} {vs : List V} (h : Rd H a (.tup vs)) : SqT K H a vs := .inl h
theorem w2_ixT {ds : List D} {i : Int} {d : D} (h : atI ds i = some d ∧ K d m) : W2 W E (oIx G) (.tup ds) (.int i) r m K := fun s H Q x y e z rx ry g => by
  cases ry
  cases rx with
  | tup mm hh rs =>
    obtain ⟨v, h1, h2⟩ := atI_reps rs h.1
    exact .inr (.inl ⟨_, _, i, v, rfl, rfl, rd_t hh, h1, g d m v H (Stp.refl _ _) e.mu h2 h.2⟩)
theorem w2_ixL {ds : List D} {i : Int} {d : D} (h : atI ds i = some d ∧ K d m) : W2 W E (oIx G) (.lst ds) (.int i) r m K := fun s H Q x y e z rx ry g => by
  cases ry
  cases rx with
  | lst mm hh rs =>
    obtain ⟨v, h1, h2⟩ := atI_reps rs h.1
    exact .inl ⟨_, _, i, v, rfl, rfl, rd_l hh, h1, g d m v H (Stp.refl _ _) e.mu h2 h.2⟩
theorem w2_ixM {p : Addr} {ds : List D} {i : Int} {d : D} (hp : At m p (.lst ds)) (h : atI ds i = some d ∧ K d m) : W2 W E (oIx G) (.ref p) (.int i) r m K := fun s H Q x y e z rx ry g => by
  cases ry
  cases rx
  have q := hp.rep e.mu
  cases q with
  | lst hh rs =>
    obtain ⟨v, h1, h2⟩ := atI_reps rs h.1
    exact .inl ⟨_, _, i, v, rfl, rfl, SqL.of hh, h1, g d m v H (Stp.refl _ _) e.mu h2 h.2⟩
theorem we_op {rr : R2} (h : We W E ta r m fun x m1 => We W E tb r m1 fun y m2 => W2 W E (fun x y _ H Q => rr x y H Q) x y r m2 K) : We W E (tOp rr ta tb) r m K := we_2 h

/-! ### chains, truth -/
theorem we_3 (h : We W E ta r m fun x m1 => We W E tb r m1 fun y m2 => W2 W E o x y r m2 fun d m3 => ∃ b, d = .bl b ∧ (b = true → We W E tc r m3 fun w m4 => W2 W E o' y w r m4 K) ∧ (b = false → K (.bl false) m3)) : We W E (t3 o o' ta tb tc) r m K := fun s H Q e z g =>
  h s H _ e z fun x m1 v H1 s1 mu1 r1 h1 => h1 s H1 _ (e.step s1 mu1) (z.step s1) fun y m2 w H2 s2 mu2 r2 h2 => by
    have e2 := (e.step s1 mu1).step s2 mu2
    have z2 := (z.step s1).step s2
    refine h2 s H2 _ v w e2 z2 (r1.mono s2) r2 fun d m3 c H3 s3 mu3 r3 h3 => ?_
    obtain ⟨b, rfl, ht, hf⟩ := h3
    cases r3
    refine ⟨b, rfl, ?_⟩
    cases b with
    | true =>
      rw [if_pos rfl]
      exact ht rfl s H3 _ (e2.step s3 mu3) (z2.step s3) fun w' m4 cv H4 s4 mu4 r4 h4 =>
        h4 s H4 Q w cv ((e2.step s3 mu3).step s4 mu4) ((z2.step s3).step s4) ((r2.mono s3).mono s4) r4 ((((g.step s1).step s2).step s3).step s4)
    | false =>
      rw [if_neg Bool.false_ne_true]
      exact g _ m3 _ H3 ((s1.trans s2).trans s3) mu3 (.bl _) (hf rfl)
theorem wt_test (h : We W E te r m fun d m1 => ∃ b, d = .bl b ∧ KB b m1) : Wt W E (tTest te) r m KB := fun s H Q e z g =>
  h s H _ e z fun d m1 v H1 s1 mu1 r1 q => by
    obtain ⟨b, rfl, k⟩ := q
    cases r1
    exact ⟨b, rfl, g b m1 H1 s1 mu1 k⟩
theorem wt_B (h : We W E te r m fun d m1 => ∃ b, d = .bl b ∧ KB b m1) : Wt W E (tB te) r m KB := wt_test h
/-- the truth of a tree -/
inductive TruD : D → Mu → Bool → Prop
  | non {m : Mu} : TruD .non m false
  | bl {m : Mu} {b : Bool} : TruD (.bl b) m b
  | int {m : Mu} {i : Int} : TruD (.int i) m (i != 0)
  | tup {m : Mu} {xs : List D} : TruD (.tup xs) m (!xs.isEmpty)
  | lst {m : Mu} {xs : List D} : TruD (.lst xs) m (!xs.isEmpty)
  | mutb {m : Mu} {p : Addr} {xs : List D} (h : At m p (.lst xs)) : TruD (.ref p) m (!xs.isEmpty)
theorem reps_empty {M : Addr → Prop} {H : Hp} {ds : List D} {vs : List V} (h : Reps M H ds vs) : ds.isEmpty = vs.isEmpty := by cases h <;> rfl
theorem TruD.ok {d : D} {b : Bool} {H : Hp} {v : V} (h : TruD d m b) (mu : MutR m H) (rp : Rep (dom m) H d v) : TruV G.K v H b := by
  cases h with
  | non => cases rp; rfl
  | bl => cases rp; rfl
  | int => cases rp; rfl
  | tup =>
    cases rp with
    | tup mm hh rs => exact .inr (.inl ⟨_, rd_t hh, by rw [reps_empty rs]⟩)
  | lst =>
    cases rp with
    | lst mm hh rs => exact .inl ⟨_, rd_l hh, by rw [reps_empty rs]⟩
  | mutb h =>
    cases rp
    have q := h.rep mu
    cases q with
    | lst hh rs => exact .inl ⟨_, SqL.of hh, by rw [reps_empty rs]⟩
theorem wt_tr (h : We W E te r m fun d m1 => ∃ b, TruD d m1 b ∧ KB b m1) : Wt W E (tTr G.K te) r m KB := fun s H Q e z g =>
  h s H _ e z fun d m1 v H1 s1 mu1 r1 q => by
    obtain ⟨b, t, k⟩ := q
    exact ⟨b, t.ok mu1 r1, g b m1 H1 s1 mu1 k⟩
theorem wt_and (h : Wt W E t r m fun b m1 => (b = true → Wt W E u r m1 KB) ∧ (b = false → KB false m1)) : Wt W E (tAnd t u) r m KB := fun s H Q e z g =>
  h s H _ e z fun b m1 H1 s1 mu1 q => by
    cases b with
    | true => exact q.1 rfl s H1 Q (e.step s1 mu1) (z.step s1) fun b m2 H2 a c k => g b m2 H2 (s1.trans a) c k
    | false => exact g false m1 H1 s1 mu1 (q.2 rfl)
theorem wt_or (h : Wt W E t r m fun b m1 => (b = true → KB true m1) ∧ (b = false → Wt W E u r m1 KB)) : Wt W E (tOr t u) r m KB := fun s H Q e z g =>
  h s H _ e z fun b m1 H1 s1 mu1 q => by
    cases b with
    | true => exact g true m1 H1 s1 mu1 (q.1 rfl)
    | false => exact q.2 rfl s H1 Q (e.step s1 mu1) (z.step s1) fun b m2 H2 a c k => g b m2 H2 (s1.trans a) c k
theorem wt_not (h : Wt W E t r m fun b m1 => KB (!b) m1) : Wt W E (tNot t) r m KB := fun s H Q e z g =>
  h s H _ e z fun b m1 H1 s1 mu1 q => g (!b) m1 H1 s1 mu1 q
theorem we_andV (h : We W E ta r m fun d m1 => ∃ b, d = .bl b ∧ (b = true → We W E tb r m1 K) ∧ (b = false → K (.bl false) m1)) : We W E (tAndV ta tb) r m K := fun s H Q e z g =>
  h s H _ e z fun d m1 v H1 s1 mu1 r1 q => by
    obtain ⟨b, rfl, ht, hf⟩ := q
    cases r1
    refine ⟨b, rfl, ?_⟩
    cases b with
    | true =>
      rw [if_pos rfl]
      exact ht rfl s H1 Q (e.step s1 mu1) (z.step s1) (g.step s1)
    | false =>
      rw [if_neg Bool.false_ne_true]
      exact g _ m1 _ H1 s1 mu1 (.bl _) (hf rfl)
theorem we_orV (h : We W E ta r m fun d m1 => ∃ b, d = .bl b ∧ (b = true → K (.bl true) m1) ∧ (b = false → We W E tb r m1 K)) : We W E (tOrV ta tb) r m K := fun s H Q e z g =>
  h s H _ e z fun d m1 v H1 s1 mu1 r1 q => by
    obtain ⟨b, rfl, ht, hf⟩ := q
    cases r1
    refine ⟨b, rfl, ?_⟩
    cases b with
    | false =>
      rw [if_neg Bool.false_ne_true]
      exact hf rfl s H1 Q (e.step s1 mu1) (z.step s1) (g.step s1)
    | true =>
      rw [if_pos rfl]
      exact g _ m1 _ H1 s1 mu1 (.bl _) (ht rfl)
theorem we_notV (h : We W E te r m fun d m1 => ∃ b, d = .bl b ∧ K (.bl (!b)) m1) : We W E (tNotV te) r m K := fun s H Q e z g =>
  h s H _ e z fun d m1 v H1 s1 mu1 r1 q => by
    obtain ⟨b, rfl, k⟩ := q
    cases r1
    exact ⟨b, rfl, g _ m1 _ H1 s1 mu1 (.bl _) k⟩
theorem we_ifx (h : Wt W E t r m fun b m1 => (b = true → We W E ta r m1 K) ∧ (b = false → We W E tb r m1 K)) : We W E (tIf t ta tb) r m K := fun s H Q e z g =>
  h s H _ e z fun b m1 H1 s1 mu1 q => by
    cases b with
    | true => exact q.1 rfl s H1 Q (e.step s1 mu1) (z.step s1) (g.step s1)
    | false => exact q.2 rfl s H1 Q (e.step s1 mu1) (z.step s1) (g.step s1)

/-! ### calls of built-ins -/
def Wc (W : WX) (E : ET) (oc : OC) (ds : List D) (r : Rho) (m : Mu) (K : KT) : Prop := ∀ s H Q vs, EnvR r m s H → Rz W E m H → Reps (dom m) H ds vs → Go m H K Q → oc vs s H Q
theorem we_c2 (h : Wa W E a r m fun ds m1 => Wc W E oc ds r m1 K) : We W E (tC2 oc a) r m K := fun s H Q e z g =>
  h s H _ e z fun ds m1 vs H1 s1 mu1 r1 q => q s H1 Q vs (e.step s1 mu1) (z.step s1) r1 (g.step s1)
end

/-! ### statements -/
section
variable {W : WX} {E : ET} {r : Rho} {m : Mu} {P : DEnds} {G : Gx} {te to : TE} {tt : TT} {ts tu : TS} {i : Nat}
theorem ws_next (h : P.nx r m) : Ws W E tNext r m P := fun s H De e z g => g.nx r m s H (Stp.refl _ _) e h
theorem ws_brk (h : P.bk r m) : Ws W E tBreak r m P := fun s H De e z g => g.bk r m s H (Stp.refl _ _) e h
theorem ws_cont (h : P.ct r m) : Ws W E tCont r m P := fun s H De e z g => g.ct r m s H (Stp.refl _ _) e h
theorem ws_seq (h : Ws W E ts r m { P with nx := fun r' m' => Ws W E tu r' m' P }) : Ws W E (tSeq ts tu) r m P := fun s H De e z g =>
  h s H _ e z ⟨fun r' m' s' H' a b q => q s' H' De b (z.step a) (g.step a), g.rt, g.bk, g.ct⟩
theorem ws_ret (h : We W E te r m P.rt) : Ws W E (tRet te) r m P := fun s H De e z g => h s H _ e z fun d m' v H' a b c k => g.rt d m' v H' a b c k
theorem ws_retN (h : P.rt .non m) : Ws W E tRetN r m P := fun s H De e z g => g.rt .non m .non H (Stp.refl _ _) e.mu .non h
theorem ws_drop (h : We W E te r m fun _ m' => P.nx r m') : Ws W E (tDrop te) r m P := fun s H De e z g => h s H _ e z fun d m' v H' a b c k => g.nx r m' s H' a (e.step a b) k
theorem ws_if (h : Wt W E tt r m fun b m1 => (b = true → Ws W E ts r m1 P) ∧ (b = false → Ws W E tu r m1 P)) : Ws W E (tIfS tt ts tu) r m P := fun s H De e z g =>
  h s H _ e z fun b m1 H1 s1 mu1 q => by
    cases b with
    | true => exact q.1 rfl s H1 De (e.step s1 mu1) (z.step s1) (g.step s1)
    | false => exact q.2 rfl s H1 De (e.step s1 mu1) (z.step s1) (g.step s1)
/-- targets -/
def Wg (W : WX) (E : ET) (g : TG) (d : D) (r : Rho) (m : Mu) (N : Rho → Mu → Prop) : Prop := ∀ s H v Q, EnvR r m s H → Rz W E m H → Rep (dom m) H d v →
  (∀ r' m' s' H', Stp (dom m) H (dom m') H' → EnvR r' m' s' H' → N r' m' → Q s' H') → g v s H Q
def Wgs (W : WX) (E : ET) (g : TGs) (ds : List D) (r : Rho) (m : Mu) (N : Rho → Mu → Prop) : Prop := ∀ s H vs Q, EnvR r m s H → Rz W E m H → Reps (dom m) H ds vs →
  (∀ r' m' s' H', Stp (dom m) H (dom m') H' → EnvR r' m' s' H' → N r' m' → Q s' H') → g vs s H Q
variable {N : Rho → Mu → Prop}
theorem EnvR.put {s : L2.St} {H : Hp} {d : D} {v : V} (e : EnvR r m s H) (rd : Rep (dom m) H d v) : EnvR (r.set i (some d)) m (s.set i (some v)) H := ⟨e.env.set (.some rd) i, e.mu⟩
theorem wg_name {d : D} (h : N (r.set i (some d)) m) : Wg W E (gName i) d r m N := fun s H v Q e z rd g => g _ m _ H (Stp.refl _ _) (e.put rd) h
theorem wgs_nil (h : N r m) : Wgs W E gNil [] r m N := fun s H vs Q e z rd g => by
  cases rd
  exact ⟨rfl, g r m s H (Stp.refl _ _) e h⟩
theorem wgs_cons {g1 : TG} {gs : TGs} {d : D} {ds : List D} (h : Wg W E g1 d r m fun r' m' => Wgs W E gs ds r' m' N) : Wgs W E (gCons g1 gs) (d :: ds) r m N := fun s H vs Q e z rd g => by
  cases rd with
  | cons r1 rt =>
    exact ⟨_, _, rfl, h s H _ _ e z r1 fun r' m' s' H' a b q => q s' H' _ Q b (z.step a) (rt.mono a) fun r2 m2 s2 H2 a2 b2 q2 => g r2 m2 s2 H2 (a.trans a2) b2 q2⟩
theorem wg_tup {gs : TGs} {n : Nat} {ds : List D} (hn : ds.length = n) (h : Wgs W E gs ds r m N) : Wg W E (gTup G.K n gs) (.tup ds) r m N := fun s H v Q e z rd g => by
  cases rd with
  | tup mm hh rs => exact ⟨_, _, rfl, rd_t hh, by rw [← rs.length, hn], h s H _ Q e z rs g⟩
theorem ixN_reps {n k : Nat} {i : Int} (h : ixN n i = some k) : k < n := by
  unfold ixN at h
  split at h
  · split at h
    · cases h; omega
    · cases h
  · split at h
    · cases h; omega
    · cases h
theorem wg_subM {ti : TE} {d : D} (h : We W E to r m fun o m1 => We W E ti r m1 fun i m2 => ∃ p xs k j m3, o = .ref p ∧ i = .int k ∧ At m2 p (.lst xs) ∧ ixN xs.length k = some j ∧ Put m2 p (.lst (xs.set j d)) m3 ∧ N r m3) : Wg W E (gSub to ti rSetL) d r m N := fun s H v Q e z rd g =>
  h s H _ e z fun o m1 vo H1 s1 mu1 r1 q1 => q1 s H1 _ (e.step s1 mu1) (z.step s1) fun i m2 vi H2 s2 mu2 r2 q2 => by
    obtain ⟨p, xs, k, j, m3, rfl, rfl, ha, hj, hp, hn⟩ := q2
    cases r1
    cases r2
    have q := ha.rep mu2
    cases q with
    | lst hh rs =>
      have rd2 := (rd.mono s1).mono s2
      refine ⟨p, _, k, j, rfl, rfl, hh, by rw [← rs.length]; exact hj, ?_⟩
      have st : ∀ o, Stp (dom m2) H2 (dom m3) (upd H2 p o) := fun o => hp.stp
      exact g r m3 s _ ((s1.trans s2).trans (st _)) (((e.step s1 mu1).step s2 mu2).step (st _) (hp.mut mu2 (.lst upd_same ((rs.set rd2 j).mono (st _))))) hn
theorem ws_asg {g : TG} (h : We W E te r m fun d m1 => Wg W E g d r m1 P.nx) : Ws W E (tAsg te g) r m P := fun s H De e z gg =>
  h s H _ e z fun d m1 v H1 s1 mu1 r1 q => q s H1 v De.nx (e.step s1 mu1) (z.step s1) r1 fun r' m' s' H' a b k => gg.nx r' m' s' H' (s1.trans a) b k
theorem ws_par {j : Nat} {a : TA} (h : Wa W E a r m fun ds m1 => ∃ x y, ds = [x, y] ∧ P.nx ((r.set i (some x)).set j (some y)) m1) : Ws W E (tPar i j a) r m P := fun s H De e z g =>
  h s H _ e z fun ds m1 vs H1 s1 mu1 r1 q => by
    obtain ⟨x, y, rfl, k⟩ := q
    cases r1 with
    | cons ra t =>
      cases t with
      | cons rb t =>
        cases t
        exact ⟨_, _, rfl, g.nx _ m1 _ H1 s1 (((e.step s1 mu1).put ra).put rb) k⟩
theorem ws_par3 {j l : Nat} {a : TA} (h : Wa W E a r m fun ds m1 => ∃ x y w, ds = [x, y, w] ∧ P.nx (((r.set i (some x)).set j (some y)).set l (some w)) m1) : Ws W E (tPar3 i j l a) r m P := fun s H De e z g =>
  h s H _ e z fun ds m1 vs H1 s1 mu1 r1 q => by
    obtain ⟨x, y, w, rfl, k⟩ := q
    cases r1 with
    | cons ra t =>
      cases t with
      | cons rb t =>
        cases t with
        | cons rc t =>
          cases t
          exact ⟨_, _, _, rfl, g.nx _ m1 _ H1 s1 ((((e.step s1 mu1).put ra).put rb).put rc) k⟩
/-- self.f = e, a new field -/
theorem putF_new {f : Str} {y : V} : ∀ {fs : List (Str × V)}, f ∉ fs.map (·.1) → putF f y fs = fs ++ [(f, y)]
  | [], _ => rfl
  | (g, v) :: fs, h => by
    have ne : ¬ g = f := fun e => h (by simp [e])
    show (if g = f then _ else _) = _
    rw [if_neg ne, putF_new (fun z => h (by simp [z]))]
    rfl
theorem RepF.snoc {M : Addr → Prop} {H : Hp} {f : Str} {x : D} {y : V} (q : Rep M H x y) : ∀ {n : List Str} {d : List D} {v : List (Str × V)}, RepF M H n d v → RepF M H (n ++ [f]) (d ++ [x]) (v ++ [(f, y)])
  | _, _, _, .nil => .cons q .nil
  | _, _, _, .cons r t => .cons r (RepF.snoc q t)
theorem RepF.lens {M : Addr → Prop} {H : Hp} {n : List Str} {d : List D} {v : List (Str × V)} (h : RepF M H n d v) : v.length = n.length := by rw [← h.names, List.length_map]
theorem ws_fldN {f : Str} (h : We W E te r m fun d m1 => We W E to r m1 fun o m2 => ∃ p C ns ds m3, o = .ref p ∧ At m2 p (.ins C ns ds) ∧ Cls G.K C ∧ NoAttr G.K C f ∧ ns.contains f = false ∧ Nat.ble ns.length 900 = true ∧ Put m2 p (.ins C (ns ++ [f]) (ds ++ [d])) m3 ∧ P.nx r m3) : Ws W E (sFld G.K to te f) r m P := fun s H De e z g =>
  h s H _ e z fun d m1 v H1 s1 mu1 r1 q1 => q1 s H1 _ (e.step s1 mu1) (z.step s1) fun o m2 vo H2 s2 mu2 r2 q2 => by
    obtain ⟨p, C, ns, ds, m3, rfl, ha, hc, hn, hf, hl, hp, k⟩ := q2
    cases r2
    have q := ha.rep mu2
    cases q with
    | ins hh rf =>
      have st : ∀ o, Stp (dom m2) H2 (dom m3) (upd H2 p o) := fun o => hp.stp
      have nf : f ∉ List.map (fun q : Str × V => q.1) _ := fun zz => by
        rw [rf.names] at zz
        rw [List.contains_iff_mem.mpr zz] at hf
        cases hf
      refine ⟨p, C, _, _, rfl, hh, hc, hn, by rw [rf.lens]; have := Nat.le_of_ble_eq_true hl; omega, ?_⟩
      rw [putF_new nf]
      exact g.nx r m3 s _ ((s1.trans s2).trans (st _)) (((e.step s1 mu1).step s2 mu2).step (st _) (hp.mut mu2 (.ins upd_same ((rf.snoc (r1.mono s2)).mono (st _))))) k
end

/-! ### loops -/
section
variable {W : WX} {E : ET} {r : Rho} {m : Mu} {P : DEnds} {G : Gx} {te : TE} {ta : TA} {tt : TT} {tb : TS} {i : Nat}
theorem goL {m0 : Mu} {H0 : Hp} {De : Ends} {nx : L2.St → Hp → Prop} {Nx : Rho → Mu → Prop} (g : GoS m0 H0 P De) {H : Hp} {m : Mu} (st : Stp (dom m0) H0 (dom m) H)
    (h : ∀ r' m' s' H', Stp (dom m) H (dom m') H' → EnvR r' m' s' H' → Nx r' m' → nx s' H') : GoS m H { nx := Nx, rt := P.rt, bk := P.nx, ct := Nx } { De with nx := nx, ct := nx, bk := De.nx } :=
  ⟨h, fun d m' v H' a b c q => g.rt d m' v H' (st.trans a) b c q, fun r' m' s' H' a b q => g.nx r' m' s' H' (st.trans a) b q, h⟩
theorem ws_range1 (h : Wa W E ta r m fun ds m1 => ∃ (j : Int) (I : Nat → Rho → Mu → Prop), ds = [.int j] ∧ (-(2 ^ 62) ≤ j ∧ j < 2 ^ 62) ∧ I 0 r m1 ∧
    (∀ k r' m', k < j.toNat → I k r' m' → Ws W E tb (r'.set i (some (.int (k : Int)))) m' { nx := I (k + 1), rt := P.rt, bk := P.nx, ct := I (k + 1) }) ∧ (∀ r' m', I j.toNat r' m' → P.nx r' m')) :
    Ws W E (tFor (iRng1 ta) (gName i) tb) r m P := fun s H De e z g =>
  h s H _ e z fun ds m1 vs H1 s1 mu1 r1 q => by
    obtain ⟨j, I, rfl, ⟨b1, b2⟩, h0, hs, hd⟩ := q
    cases r1 with
    | cons ra t =>
      cases t
      cases ra
      refine ⟨j, rfl, b1, b2, ?_⟩
      refine for_range (lo := 0) (n := j.toNat) (fun k s' H' => ∃ r' m', Stp (dom m) H (dom m') H' ∧ EnvR r' m' s' H' ∧ I k r' m') ⟨r, m1, s1, e.step s1 mu1, h0⟩ (fun k s' H' hk ⟨r', m', st, e', hi⟩ => ?_) (fun s' H' ⟨r', m', st, e', hi⟩ => g.nx r' m' s' H' st e' (hd r' m' hi))
      have q := hs k r' m' hk hi
      show tb _ (s'.set i (some (.int (0 + (k : Int))))) H'
      rw [Int.zero_add]
      exact q _ H' _ (e'.put (.int _)) (z.step st) (goL g st fun r2 m2 s2 H2 a b c => ⟨r2, m2, st.trans a, b, c⟩)
theorem ws_range2 (h : Wa W E ta r m fun ds m1 => ∃ (l j : Int) (I : Nat → Rho → Mu → Prop), ds = [.int l, .int j] ∧ (-(2 ^ 62) ≤ l ∧ l < 2 ^ 62 ∧ -(2 ^ 62) ≤ j ∧ j < 2 ^ 62) ∧ I 0 r m1 ∧
    (∀ k r' m', k < (j - l).toNat → I k r' m' → Ws W E tb (r'.set i (some (.int (l + (k : Int))))) m' { nx := I (k + 1), rt := P.rt, bk := P.nx, ct := I (k + 1) }) ∧ (∀ r' m', I (j - l).toNat r' m' → P.nx r' m')) :
    Ws W E (tFor (iRng2 ta) (gName i) tb) r m P := fun s H De e z g =>
  h s H _ e z fun ds m1 vs H1 s1 mu1 r1 q => by
    obtain ⟨l, j, I, rfl, b1, h0, hs, hd⟩ := q
    cases r1 with
    | cons ra t =>
      cases t with
      | cons rb t =>
        cases t
        cases ra
        cases rb
        refine ⟨l, j, rfl, b1, ?_⟩
        refine for_range (lo := l) (n := (j - l).toNat) (fun k s' H' => ∃ r' m', Stp (dom m) H (dom m') H' ∧ EnvR r' m' s' H' ∧ I k r' m') ⟨r, m1, s1, e.step s1 mu1, h0⟩ (fun k s' H' hk ⟨r', m', st, e', hi⟩ => ?_) (fun s' H' ⟨r', m', st, e', hi⟩ => g.nx r' m' s' H' st e' (hd r' m' hi))
        exact hs k r' m' hk hi _ H' _ (e'.put (.int _)) (z.step st) (goL g st fun r2 m2 s2 H2 a b c => ⟨r2, m2, st.trans a, b, c⟩)
/-- for over a list or a tuple -/
def iSeq (K : PySem.W.Frag) (tl : TE) : TI := fun σ H R => tl σ H fun x H1 => (∃ a, x = .ref a ∧ (∃ xs, SqL K H1 a xs) ∧ R (Itl K a) H1) ∨ (∃ a, x = .ref a ∧ (∃ xs, SqT K H1 a xs) ∧ R (Itt K a) H1)
theorem pi_seq {X : Cx} {tg l : Expr} {tl : TE} (hl : PE X l tl) : PI X tg l (iSeq X.K tl) := by
  refine ⟨fun pins s σ H R I h => ?_⟩
  refine thn (hl.run pins s σ H _ I h) fun v s1 ⟨x, H1, I1, r1, q1⟩ => ?_
  rcases q1 with ⟨a, e, ⟨xs, hq⟩, q⟩ | ⟨a, e, ⟨xs, hq⟩, q⟩
  · subst e
    cases r1
    obtain ⟨its, rv, p, hz⟩ := I1.list hq
    refine wpAny_pyIter_list p.isList ?_
    refine ⟨s1.heap.objs.size, [s1.heap.objs.size], _, _, H1, rfl, I1.kept (t' := s1.toks) fun b o e => Heap.get?_push_of_some _ e, turn_list a _, ⟨_, Heap.get?_push_size _ rfl, rfl, rfl⟩, fun b hb => ?_, q⟩
    have e : b = s1.heap.objs.size := by simpa using hb
    subst e
    exact I1.fpOk (Nat.le_refl _) (I1.hok.fresh (Nat.le_refl _))
  · subst e
    cases r1
    obtain ⟨its, rv, p, hz⟩ := I1.tuple hq
    refine wpAny_pyIter_tuple (show s1.heap.IsTuple a its.toArray from p) ?_
    refine ⟨s1.heap.objs.size, [s1.heap.objs.size], _, _, H1, rfl, I1.kept (t' := s1.toks) fun b o e => Heap.get?_push_of_some _ e, turn_tuple a _, ⟨_, Heap.get?_push_size _ rfl, rfl, rfl⟩, fun b hb => ?_, q⟩
    have e : b = s1.heap.objs.size := by simpa using hb
    subst e
    exact I1.fpOk (Nat.le_refl _) (I1.hok.fresh (Nat.le_refl _))
inductive SeqD : D → List D → Prop
  | lst {xs : List D} : SeqD (.lst xs) xs
  | tup {xs : List D} : SeqD (.tup xs) xs
/-- by an invariant -/
theorem ws_seqI {g : TG} (h : We W E te r m fun d m1 => ∃ (xs : List D) (I : Nat → Rho → Mu → Prop), SeqD d xs ∧ I 0 r m1 ∧
    (∀ k x r' m', xs[k]? = some x → I k r' m' → Wg W E g x r' m' fun r2 m2 => Ws W E tb r2 m2 { nx := I (k + 1), rt := P.rt, bk := P.nx, ct := I (k + 1) }) ∧ (∀ r' m', I xs.length r' m' → P.nx r' m')) :
    Ws W E (tFor (iSeq G.K te) g tb) r m P := fun s H De e z gg =>
  h s H _ e z fun d m1 v H1 s1 mu1 r1 q => by
    obtain ⟨xs, I, sd, h0, hs, hd⟩ := q
    cases sd with
    | lst =>
      cases r1 with
      | @lst a _ vs mm hh rs =>
        refine .inl ⟨a, rfl, ⟨_, rd_l hh⟩, ?_⟩
        refine for_list (xs := vs) (fun k s' H' => ∃ r' m', Stp (dom m1) H1 (dom m') H' ∧ EnvR r' m' s' H' ∧ I k r' m') ⟨r, m1, Stp.refl _ _, e.step s1 mu1, h0⟩ (fun k s' H' _ ⟨r', m', st1, e', hi⟩ => rd_l (st1.rd mm hh).1)
          (fun k x s' H' hx ⟨r', m', st1, e', hi⟩ => ?_) (fun s' H' ⟨r', m', st1, e', hi⟩ => gg.nx r' m' s' H' (s1.trans st1) e' (hd r' m' (by rw [rs.length]; exact hi)))
        obtain ⟨d, hd1, hd2⟩ := rs.getV hx
        refine hs k d r' m' hd1 hi s' H' x _ e' (z.step (s1.trans st1)) (hd2.mono st1) fun r2 m2 s2 H2 st2 e2 q2 => ?_
        exact q2 s2 H2 _ e2 (z.step (s1.trans (st1.trans st2))) (goL gg (s1.trans (st1.trans st2)) fun r3 m3 s3 H3 a3 b3 c3 => ⟨r3, m3, st1.trans (st2.trans a3), b3, c3⟩)
    | tup =>
      cases r1 with
      | @tup a _ vs mm hh rs =>
        refine .inr ⟨a, rfl, ⟨_, rd_t hh⟩, ?_⟩
        refine for_tup (xs := vs) (fun k s' H' => ∃ r' m', Stp (dom m1) H1 (dom m') H' ∧ EnvR r' m' s' H' ∧ I k r' m') ⟨r, m1, Stp.refl _ _, e.step s1 mu1, h0⟩ (fun k s' H' _ ⟨r', m', st1, e', hi⟩ => rd_t (st1.rd mm hh).1)
          (fun k x s' H' hx ⟨r', m', st1, e', hi⟩ => ?_) (fun s' H' ⟨r', m', st1, e', hi⟩ => gg.nx r' m' s' H' (s1.trans st1) e' (hd r' m' (by rw [rs.length]; exact hi)))
        obtain ⟨d, hd1, hd2⟩ := rs.getV hx
        refine hs k d r' m' hd1 hi s' H' x _ e' (z.step (s1.trans st1)) (hd2.mono st1) fun r2 m2 s2 H2 st2 e2 q2 => ?_
        exact q2 s2 H2 _ e2 (z.step (s1.trans (st1.trans st2))) (goL gg (s1.trans (st1.trans st2)) fun r3 m3 s3 H3 a3 b3 c3 => ⟨r3, m3, st1.trans (st2.trans a3), b3, c3⟩)
/-- turn by turn, the target a name -/
def ForL (W : WX) (E : ET) (i : Nat) (tb : TS) (P : DEnds) : List D → Rho → Mu → Prop
  | [], r, m => P.nx r m
  | x :: xs, r, m => Ws W E tb (r.set i (some x)) m { nx := ForL W E i tb P xs, rt := P.rt, bk := P.nx, ct := ForL W E i tb P xs }
theorem ws_seqU (h : We W E te r m fun d m1 => ∃ xs, SeqD d xs ∧ ForL W E i tb P xs r m1) : Ws W E (tFor (iSeq G.K te) (gName i) tb) r m P :=
  ws_seqI (h.imp fun d m1 ⟨xs, sd, q⟩ => ⟨xs, fun k r' m' => ForL W E i tb P (xs.drop k) r' m', sd, (show ForL W E i tb P (xs.drop 0) r m1 by rw [List.drop_zero]; exact q), fun k x r' m' hx hi => by
    obtain ⟨hk, hx'⟩ := List.getElem?_eq_some_iff.mp hx
    have hi2 : ForL W E i tb P (xs.drop k) r' m' := hi
    rw [List.drop_eq_getElem_cons hk, hx'] at hi2
    exact wg_name hi2, fun r' m' hi => by
    have hi2 : ForL W E i tb P (xs.drop xs.length) r' m' := hi
    rw [List.drop_length] at hi2
    exact hi2⟩)
theorem forL_nil {r : Rho} {m : Mu} (h : P.nx r m) : ForL W E i tb P [] r m := h
theorem forL_cons {x : D} {xs : List D} {r : Rho} {m : Mu} (h : Ws W E tb (r.set i (some x)) m { nx := ForL W E i tb P xs, rt := P.rt, bk := P.nx, ct := ForL W E i tb P xs }) : ForL W E i tb P (x :: xs) r m := h
/-- while, by a word and a measure -/
theorem ws_while (I : Rho → Mu → Prop) (f : Rho → Mu → Nat) (h0 : I r m) (h : ∀ r m, I r m → Wt W E tt r m fun b m1 => (b = true → Ws W E tb r m1 { nx := fun r' m' => I r' m' ∧ f r' m' < f r m, rt := P.rt, bk := P.nx, ct := fun r' m' => I r' m' ∧ f r' m' < f r m }) ∧ (b = false → P.nx r m1)) :
    Ws W E (tWhile tt tb) r m P := fun s H De e z g => by
  refine ⟨fun n s' H' => ∃ r' m', n = f r' m' ∧ Stp (dom m) H (dom m') H' ∧ EnvR r' m' s' H' ∧ I r' m', ⟨_, r, m, rfl, Stp.refl _ _, e, h0⟩, ?_⟩
  rintro n s' H' ⟨r', m', rfl, st, e', hi⟩
  refine h r' m' hi s' H' _ e' (z.step st) fun b m1 H1 s1 mu1 q => ?_
  cases b with
  | true =>
    rw [if_pos rfl]
    refine ⟨fun s2 H2 => ∃ r2 m2, f r2 m2 < f r' m' ∧ Stp (dom m) H (dom m2) H2 ∧ EnvR r2 m2 s2 H2 ∧ I r2 m2, fun s2 H2 ⟨r2, m2, l, a, b, c⟩ => ⟨_, l, r2, m2, rfl, a, b, c⟩, ?_⟩
    exact q.1 rfl s' H1 _ (e'.step s1 mu1) (z.step (st.trans s1)) (goL g (st.trans s1) fun r2 m2 s2 H2 a b c => ⟨r2, m2, c.2, st.trans (s1.trans a), b, c.1⟩)
  | false =>
    rw [if_neg Bool.false_ne_true]
    exact g.nx r' m1 s' H1 (st.trans s1) (e'.step s1 mu1) (q.2 rfl)
end
end DL
set_option Elab.async false
set_option linter.all false
set_option maxRecDepth 100000
/-! DL6: built-in functions, comprehensions, lists changed, errors raised and caught. -/
namespace DL
open PySem PySem.Spec L2
open PyProof.Rows hiding St

/-! ### built-in functions: the readings -/
section
variable {X : Cx} {W : WX} {j : Nat}
def rAbsI : List V → Hp → VK → Prop := fun xs H Q => ∃ i, xs = [.int i] ∧ Q (.int (if i < 0 then -i else i)) H
def cAbs : OC := fun xs _ H Q => rAbsI xs H Q
theorem cs_abs : CallS X (.builtin "abs") cAbs := CallS.of call_abs
def rInt1 : List V → Hp → VK → Prop := fun xs H Q => (∃ i, xs = [.int i] ∧ Q (.int i) H) ∨ ∃ k, xs = [.bl k] ∧ Q (.int (if k then 1 else 0)) H
def cInt : OC := fun xs _ H Q => rInt1 xs H Q
theorem cs_int : CallS X (.type "int") cInt := CallS.of call_int1
def rLenD (K : PySem.W.Frag) : List V → Hp → VK → Prop := fun xs H Q => ∃ x n, xs = [x] ∧ LenV K x H n ∧ Q (.int (n : Nat)) H
def cLen (G : Gx) : OC := fun xs _ H Q => rLenD G.K xs H Q
theorem cs_len : CallS X (.builtin "len") (cLen (Gx.of X)) := CallS.of call_len
def rMin2 : List V → Hp → VK → Prop := fun xs H Q => ∃ i j, xs = [.int i, .int j] ∧ Q (.int (if j < i then j else i)) H
def rMax2 : List V → Hp → VK → Prop := fun xs H Q => ∃ i j, xs = [.int i, .int j] ∧ Q (.int (if j > i then j else i)) H
def cMin : OC := fun xs _ H Q => rMin2 xs H Q
def cMax : OC := fun xs _ H Q => rMax2 xs H Q
theorem cs_min (hc : X.calm = true) : CallS X (.builtin "min") cMin := CallS.of (call_min2 hc)
theorem cs_max (hc : X.calm = true) : CallS X (.builtin "max") cMax := CallS.of (call_max2 hc)
def cGcd : OC := fun xs _ H Q => rGcd xs H Q
theorem cs_gcd : CallS X (.builtin "math.gcd") cGcd := CallS.of cr_gcd
def cIsi (G : Gx) : OC := fun xs _ H Q => rIsi G.K xs H Q
theorem cs_isi : CallS X (.builtin "isinstance") (cIsi (Gx.of X)) := CallS.of call_isi
end

/-! ### what they do -/
section
variable {W : WX} {E : ET} {r : Rho} {m : Mu} {K : KT} {G : Gx} {j : Nat}
theorem wc_abs {i : Int} (h : K (.int (i.natAbs : Int)) m) : Wc W E cAbs [.int i] r m K := fun s H Q vs e z rs g => by
  cases rs with
  | cons a t =>
    cases t; cases a
    refine ⟨i, rfl, ?_⟩
    have q : (if i < 0 then -i else i) = (i.natAbs : Int) := by split <;> omega
    rw [q]
    exact g _ m _ H (Stp.refl _ _) e.mu (.int _) h
theorem wc_int {i : Int} (h : K (.int i) m) : Wc W E cInt [.int i] r m K := fun s H Q vs e z rs g => by
  cases rs with
  | cons a t =>
    cases t; cases a
    exact .inl ⟨i, rfl, g _ m _ H (Stp.refl _ _) e.mu (.int _) h⟩
theorem wc_intB {b : Bool} (h : K (.int (if b then 1 else 0)) m) : Wc W E cInt [.bl b] r m K := fun s H Q vs e z rs g => by
  cases rs with
  | cons a t =>
    cases t; cases a
    exact .inr ⟨b, rfl, g _ m _ H (Stp.refl _ _) e.mu (.int _) h⟩
inductive LenD : D → Mu → Nat → Prop
  | tup {m : Mu} {xs : List D} : LenD (.tup xs) m xs.length
  | lst {m : Mu} {xs : List D} : LenD (.lst xs) m xs.length
  | mutb {m : Mu} {p : Addr} {xs : List D} (h : At m p (.lst xs)) : LenD (.ref p) m xs.length
theorem wc_len {d : D} {n : Nat} (l : LenD d m n) (h : K (.int (n : Int)) m) : Wc W E (cLen G) [d] r m K := fun s H Q vs e z rs g => by
  cases rs with
  | cons a t =>
    cases t
    refine ⟨_, n, rfl, ?_, g _ m _ H (Stp.refl _ _) e.mu (.int _) h⟩
    cases l with
    | tup => cases a with | tup mm hh rs => exact .inr ⟨_, rd_t hh, rs.length⟩
    | lst => cases a with | lst mm hh rs => exact .inl ⟨_, rd_l hh, rs.length⟩
    | mutb hm =>
      cases a
      have q := hm.rep e.mu
      cases q with
      | lst hh rs => exact .inl ⟨_, SqL.of hh, rs.length⟩
theorem wc_min {i k : Int} (h : K (.int (min i k)) m) : Wc W E cMin [.int i, .int k] r m K := fun s H Q vs e z rs g => by
  cases rs with
  | cons a t =>
    cases t with
    | cons b t =>
      cases t; cases a; cases b
      refine ⟨i, k, rfl, ?_⟩
      have q : (if k < i then k else i) = min i k := by split <;> omega
      rw [q]
      exact g _ m _ H (Stp.refl _ _) e.mu (.int _) h
theorem wc_max {i k : Int} (h : K (.int (max i k)) m) : Wc W E cMax [.int i, .int k] r m K := fun s H Q vs e z rs g => by
  cases rs with
  | cons a t =>
    cases t with
    | cons b t =>
      cases t; cases a; cases b
      refine ⟨i, k, rfl, ?_⟩
      have q : (if k > i then k else i) = max i k := by split <;> omega
      rw [q]
      exact g _ m _ H (Stp.refl _ _) e.mu (.int _) h
theorem wc_gcd {i k : Int} (h : K (.int ((Nat.gcd i.natAbs k.natAbs : Nat) : Int)) m) : Wc W E cGcd [.int i, .int k] r m K := fun s H Q vs e z rs g => by
  cases rs with
  | cons a t =>
    cases t with
    | cons b t =>
      cases t; cases a; cases b
      exact ⟨i, k, rfl, g _ m _ H (Stp.refl _ _) e.mu (.int _) h⟩
/-- the class of a tree, as isinstance asks -/
structure InsK (K : PySem.W.Frag) (C : Addr) : Prop where
  cl : Cls K C
  ha : PySem.W.findIn K (.ref C) "__class__" = some (some (.builtin "object.__class__"))
  hn : PySem.W.specialIn K (.builtin "object.__class__") "__get__" = some (some (.builtin "getset_descriptor.__get__"))
  ht : PySem.W.takesIn K (.builtin "object.__class__") = some true
  hm : PySem.W.mroIn K C (.type "object") = some true
inductive TyD (G : Gx) : D → Mu → Value → Prop
  | non {m : Mu} : TyD G .non m (.type "NoneType")
  | bl {m : Mu} {b : Bool} : TyD G (.bl b) m (.type "bool")
  | int {m : Mu} {i : Int} : TyD G (.int i) m (.type "int")
  | str {m : Mu} {x : Str} : TyD G (.str x) m (.type "str")
  | tup {m : Mu} {xs : List D} : TyD G (.tup xs) m (.type "tuple")
  | lst {m : Mu} {xs : List D} : TyD G (.lst xs) m (.type "list")
  | ins {m : Mu} {C : Addr} {ns : List Str} {ds : List D} (h : InsK G.K C) : TyD G (.ins C ns ds) m (.ref C)
theorem TyD.ok {d : D} {t : Value} {H : Hp} {v : V} (h : TyD G d m t) (rp : Rep (dom m) H d v) : TyX G.K H v t := by
  cases h with
  | non => cases rp; exact .base .non
  | bl => cases rp; exact .base (.bl _)
  | int => cases rp; exact .base (.int _)
  | str => cases rp; exact .base (.str _)
  | tup =>
    cases rp with
    | tup mm hh rs =>
      rcases hh with hh | ⟨o, hh⟩
      · exact .base (.tup hh)
      · exact .fTuple hh
  | lst =>
    cases rp with
    | lst mm hh rs =>
      rcases hh with hh | ⟨o, hh⟩
      · exact .base (.lst hh)
      · exact .base (.frz hh)
  | ins h =>
    cases rp with
    | ins mm hh rs => exact .base (.ins hh h.cl h.ha h.hn h.ht h.hm)
theorem wc_isiT {d : D} {t : Value} {n : String} {b : Bool} (ty : TyD G d m t) (hk : PySem.W.kitOne G.K t (.type n) = some b) (h : K (.bl b) m) : Wc W E (cIsi G) [d, .ty n] r m K := fun s H Q vs e z rs g => by
  cases rs with
  | cons a tt =>
    cases tt with
    | cons c tt =>
      cases tt; cases c
      exact ⟨_, _, t, .type n, b, rfl, .ty n, ty.ok a, hk, g _ m _ H (Stp.refl _ _) e.mu (.bl _) h⟩
theorem wc_isiC {d : D} {t : Value} {C : Addr} {b : Bool} (ty : TyD G d m t) (hk : PySem.W.kitOne G.K t (.ref C) = some b) (h : K (.bl b) m) : Wc W E (cIsi G) [d, .ref C] r m K := fun s H Q vs e z rs g => by
  cases rs with
  | cons a tt =>
    cases tt with
    | cons c tt =>
      cases tt; cases c
      exact ⟨_, _, t, .ref C, b, rfl, .own C, ty.ok a, hk, g _ m _ H (Stp.refl _ _) e.mu (.bl _) h⟩
end

/-! ### comprehensions over a list or a tuple, the element by a function -/
section
variable {W : WX} {E : ET} {r : Rho} {m : Mu} {K : KT} {G : Gx} {te tx : TE} {i : Nat}
theorem wipe1 (s : L2.St) : wipe s [i] = s.set i none := rfl
theorem we_lcmG {f : D → D} {W0 : WX} {E0 : ET} (hz : ∀ {m : Mu} {H : Hp}, Rz W E m H → Rz W0 E0 m H) (h : We W E tx r m fun d m1 => ∃ xs, SeqD d xs ∧ Nat.ble xs.length 100000 = true ∧ (∀ x ∈ xs, ∀ (q : Addr × MO) (K2 : KT), K2 (f x) (q :: m1) → We W0 E0 te (r.set i (some x)) (q :: m1) K2) ∧ K (.lst (xs.map f)) m1) :
    We W E (tLc (iSeq G.K tx) (gName i) tYes te [i]) r m K := fun s H Q e z g =>
  h s H _ e z fun d m1 v H1 s1 mu1 r1 q => by
    obtain ⟨xs, sd, hlen, hel, hK⟩ := q
    have e1 := e.step s1 mu1
    have hlen' := Nat.le_of_ble_eq_true hlen
    have start : ∀ Dd, H1 Dd = none → (Stp (dom m1) H1 (dom ((Dd, MO.lst ((xs.take 0).map f)) :: m1)) (upd H1 Dd (.lst [])) ∧ MutR ((Dd, .lst ((xs.take 0).map f)) :: m1) (upd H1 Dd (.lst []))) := fun Dd hd =>
      ⟨Stp.newM hd, mu1.newM hd (.lst upd_same .nil)⟩
    have fin : ∀ (vs : List V) (Dd : Addr), Reps (dom m1) H1 xs vs → ∀ H', (Stp (dom m1) H1 (dom ((Dd, MO.lst ((xs.take vs.length).map f)) :: m1)) H' ∧ MutR ((Dd, .lst ((xs.take vs.length).map f)) :: m1) H') → Q (.ref Dd) H' := fun vs Dd rs H' ⟨a, b⟩ => by
      rw [← rs.length, List.take_length] at a b
      have ls : Stp (dom ((Dd, MO.lst (xs.map f)) :: m1)) H' (dom m1) H' := Stp.less fun a z => dom_cons.mpr (.inr z)
      have q := (At.head (m := m1) (p := Dd) (o := .lst (xs.map f))).rep b
      cases q with
      | lst hh rr => exact g _ m1 _ H' (s1.trans (a.trans ls)) b.drop (.lst b.notin (.inl hh) (rr.mono ls)) hK
    have turn : ∀ (vs : List V) (Dd : Addr), Reps (dom m1) H1 xs vs → ∀ k x H', vs[k]? = some x → (Stp (dom m1) H1 (dom ((Dd, MO.lst ((xs.take k).map f)) :: m1)) H' ∧ MutR ((Dd, .lst ((xs.take k).map f)) :: m1) H') →
        te ((wipe s [i]).set i (some x)) H' fun y H4 => ∃ acc, H4 Dd = some (.lst acc) ∧ acc.length < sizeLine ∧ (Stp (dom m1) H1 (dom ((Dd, MO.lst ((xs.take (k + 1)).map f)) :: m1)) (upd H4 Dd (.lst (acc ++ [y]))) ∧ MutR ((Dd, .lst ((xs.take (k + 1)).map f)) :: m1) (upd H4 Dd (.lst (acc ++ [y])))) := fun vs Dd rs k x H' hx ⟨a, b⟩ => by
      obtain ⟨d, hd1, hd2⟩ := rs.getV hx
      have hmem : d ∈ xs := List.mem_of_getElem? hd1
      have ee : EnvR (r.set i (some d)) ((Dd, .lst ((xs.take k).map f)) :: m1) ((wipe s [i]).set i (some x)) H' := by
        have e' := e1.step a b
        refine ⟨?_, b⟩
        rw [wipe1, List.set_set]
        exact (e'.put (hd2.mono a)).env
      refine hel d hmem (Dd, .lst ((xs.take k).map f)) (fun d' m' => d' = f d ∧ m' = (Dd, .lst ((xs.take k).map f)) :: m1) ⟨rfl, rfl⟩ _ H' _ ee (hz (z.step (s1.trans a))) fun d' m' y H4 st4 mu4 r4 qq => ?_
      obtain ⟨rfl, rfl⟩ := qq
      have q := (At.head (m := m1) (p := Dd) (o := .lst ((xs.take k).map f))).rep mu4
      have ex : xs.take (k + 1) = xs.take k ++ [d] := by
        rw [List.take_add_one, hd1]
        rfl
      cases q with
      | @lst _ ys hh rr =>
        have al : ys.length < sizeLine := by
          rw [← rr.length, List.length_map, List.length_take]
          have : (100000 : Nat) < sizeLine := by decide
          omega
        have P : Put ((Dd, MO.lst ((xs.take k).map f)) :: m1) Dd (.lst ((xs.take (k + 1)).map f)) ((Dd, .lst ((xs.take (k + 1)).map f)) :: m1) := .head
        refine ⟨ys, hh, al, a.trans (st4.trans P.stp), P.mut mu4 (.lst upd_same ?_)⟩
        rw [ex, List.map_append]
        exact Reps.append (rr.mono P.stp) (.cons (r4.mono P.stp) .nil)
    cases sd with
    | lst =>
      cases r1 with
      | @lst a _ vs mm hh rs =>
        refine .inl ⟨a, rfl, ⟨vs, rd_l hh⟩, fun (Dd : Addr) (hD : H1 Dd = none) => ?_⟩
        refine lc_list (xs := vs) (fun k H' => Stp (dom m1) H1 (dom ((Dd, MO.lst ((xs.take k).map f)) :: m1)) H' ∧ MutR ((Dd, .lst ((xs.take k).map f)) :: m1) H') (start Dd hD) (fun k H' _ p => rd_l (p.1.rd mm hh).1)
          (fun k x H' hx p => ⟨by simp only [wipe, List.set_set], ?_⟩) (fun H' p => fin vs Dd rs H' p)
        unfold tYes
        dsimp only
        rw [if_pos rfl]
        exact turn vs Dd rs k x H' hx p
    | tup =>
      cases r1 with
      | @tup a _ vs mm hh rs =>
        refine .inr ⟨a, rfl, ⟨vs, rd_t hh⟩, fun (Dd : Addr) (hD : H1 Dd = none) => ?_⟩
        refine lc_tup (xs := vs) (fun k H' => Stp (dom m1) H1 (dom ((Dd, MO.lst ((xs.take k).map f)) :: m1)) H' ∧ MutR ((Dd, .lst ((xs.take k).map f)) :: m1) H') (start Dd hD) (fun k H' _ p => rd_t (p.1.rd mm hh).1)
          (fun k x H' hx p => ⟨by simp only [wipe, List.set_set], ?_⟩) (fun H' p => fin vs Dd rs H' p)
        unfold tYes
        dsimp only
        rw [if_pos rfl]
        exact turn vs Dd rs k x H' hx p
theorem we_lcm {f : D → D} (h : We W E tx r m fun d m1 => ∃ xs, SeqD d xs ∧ Nat.ble xs.length 100000 = true ∧ (∀ x ∈ xs, ∀ (q : Addr × MO) (K2 : KT), K2 (f x) (q :: m1) → We W E te (r.set i (some x)) (q :: m1) K2) ∧ K (.lst (xs.map f)) m1) :
    We W E (tLc (iSeq G.K tx) (gName i) tYes te [i]) r m K := we_lcmG (fun z => z) h
/-- no call of an element lets an exception out -/
theorem we_lcmN {f : D → D} (h : We W E tx r m fun d m1 => ∃ xs, SeqD d xs ∧ Nat.ble xs.length 100000 = true ∧ (∀ x ∈ xs, ∀ (q : Addr × MO) (K2 : KT), K2 (f x) (q :: m1) → We (fun _ _ _ _ => False) (fun _ _ _ => False) te (r.set i (some x)) (q :: m1) K2) ∧ K (.lst (xs.map f)) m1) :
    We W E (tLc (iSeq G.K tx) (gName i) tYes te [i]) r m K := we_lcmG (fun _ _ _ _ _ _ _ _ _ _ _ (e : False) => e.elim) h
end
end DL
set_option Elab.async false
set_option linter.all false
set_option maxRecDepth 100000
/-! DL7: lists changed, slices, errors raised and caught. -/
namespace DL
open PySem PySem.Spec L2
open PyProof.Rows hiding St

section
variable {W : WX} {E : ET} {r : Rho} {m : Mu} {K : KT} {G : Gx} {te to : TE} {ta : TA} {i : Nat} {P : DEnds}
/-! ### xs.append(d) -/
theorem we_app (h : We W E to r m fun o m1 => ∃ p xs1, o = .ref p ∧ At m1 p (.lst xs1) ∧ Wa W E ta r m1 fun ds m2 => ∃ xs d m3, ds = [d] ∧ At m2 p (.lst xs) ∧ xs.length < 1000000 ∧ Put m2 p (.lst (xs ++ [d])) m3 ∧ K .non m3) :
    We W E (tBM G.K "list" rAppend to ta) r m K := fun s H Q e z g =>
  h s H _ e z fun o m1 v H1 s1 mu1 r1 q => by
    obtain ⟨p, xs1, rfl, ha1, q⟩ := q
    cases r1
    have at1 := ha1.rep mu1
    cases at1 with
    | lst hh1 rs1 =>
      refine ⟨Or.inl ⟨rfl, _, SqL.of hh1⟩, ?_⟩
      refine q s H1 _ (e.step s1 mu1) (z.step s1) fun ds m2 vs H2 s2 mu2 r2 q2 => ?_
      obtain ⟨xs, d, m3, rfl, ha, hl, hp, k⟩ := q2
      have at2 := ha.rep mu2
      cases at2 with
      | lst hh rs =>
        cases r2 with
        | cons rd t =>
          cases t
          have st : ∀ o, Stp (dom m2) H2 (dom m3) (upd H2 p o) := fun o => hp.stp
          refine ⟨p, _, _, rfl, rfl, hh, Nat.lt_of_lt_of_le (by rw [← rs.length]; exact hl) (by decide : 1000000 ≤ sizeLine), ?_⟩
          exact g _ m3 _ _ ((s1.trans s2).trans (st _)) (hp.mut mu2 (.lst upd_same (Reps.append (rs.mono (st _)) (.cons (rd.mono (st _)) .nil)))) .non k

/-! ### slices -/
def cutD (xs : List D) (lo hi : Option Int) : List D := (xs.drop (HT.sIx xs.length 0 lo)).take (HT.sIx xs.length xs.length hi - HT.sIx xs.length 0 lo)
theorem Reps.cut {M : Addr → Prop} {H : Hp} {ds : List D} {vs : List V} (h : Reps M H ds vs) (lo hi : Option Int) : Reps M H (cutD ds lo hi) (cutV vs lo hi) := by
  unfold cutD cutV
  rw [h.length]
  exact (h.drop _).take _
def Wo (W : WX) (E : ET) (t : TO) (r : Rho) (m : Mu) (KO : Option Int → Mu → Prop) : Prop := ∀ s H Q, EnvR r m s H → Rz W E m H → (∀ o m' H', Stp (dom m) H (dom m') H' → MutR m' H' → KO o m' → Q o H') → t s H Q
theorem wo_none {KO : Option Int → Mu → Prop} (h : KO none m) : Wo W E tNoPart r m KO := fun s H Q e z g => g none m H (Stp.refl _ _) e.mu h
theorem wo_some {KO : Option Int → Mu → Prop} (h : We W E te r m fun d m1 => ∃ i, d = .int i ∧ KO (some i) m1) : Wo W E (tPart te) r m KO := fun s H Q e z g =>
  h s H _ e z fun d m1 v H1 s1 mu1 r1 ⟨i, hd, k⟩ => by
    subst hd
    cases r1
    exact ⟨i, rfl, g _ m1 H1 s1 mu1 k⟩
theorem we_slL {tl th : TO} (h : We W E te r m fun d m1 => ∃ xs, d = .lst xs ∧ Wo W E tl r m1 fun lo m2 => Wo W E th r m2 fun hi m3 => K (.lst (cutD xs lo hi)) m3) : We W E (tSl (rSlL G.K) te tl th) r m K := fun s H Q e z g =>
  h s H _ e z fun d m1 v H1 s1 mu1 r1 ⟨xs, hd, q⟩ => by
    subst hd
    refine q s H1 _ (e.step s1 mu1) (z.step s1) fun lo m2 H2 s2 mu2 q2 => ?_
    refine q2 s H2 _ ((e.step s1 mu1).step s2 mu2) ((z.step s1).step s2) fun hi m3 H3 s3 mu3 k => ?_
    have r3 := (r1.mono s2).mono s3
    cases r3 with
    | lst mm hh rs =>
      refine ⟨_, _, rfl, rd_l hh, fun p hp => ?_⟩
      exact g _ m3 _ _ (((s1.trans s2).trans s3).trans (Stp.new hp)) (mu3.new hp) (.lst (fun zz => by obtain ⟨u, hu⟩ := mu3.there zz; rw [hp] at hu; cases hu) (.inl upd_same) ((rs.cut lo hi).mono (Stp.new hp))) k
/-- xs[::-1] -/
theorem Reps.rev {M : Addr → Prop} {H : Hp} : ∀ {d : List D} {v : List V}, Reps M H d v → Reps M H d.reverse v.reverse
  | _, _, .nil => .nil
  | _, _, .cons r t => by
    rw [List.reverse_cons, List.reverse_cons]
    exact Reps.append (Reps.rev t) (.cons r .nil)
theorem we_revL (h : We W E te r m fun d m1 => ∃ xs, d = .lst xs ∧ K (.lst xs.reverse) m1) : We W E (tRevL G.K te) r m K := fun s H Q e z g => by
  refine h s H _ e z fun d m1 v H1 s1 mu1 r1 ⟨xs, hd, k⟩ => ?_
  subst hd
  cases r1 with
  | lst mm hh rs =>
    refine ⟨_, _, rfl, rd_l hh, fun p hp => ?_⟩
    exact g _ m1 _ _ (s1.trans (Stp.new hp)) (mu1.new hp) (.lst (fun zz => by obtain ⟨u, hu⟩ := mu1.there zz; rw [hp] at hu; cases hu) (.inl upd_same) (rs.rev.mono (Stp.new hp))) k
/-- .. of a list that is changed -/
theorem we_revM (h : We W E te r m fun d m1 => ∃ p xs, d = .ref p ∧ At m1 p (.lst xs) ∧ K (.lst xs.reverse) m1) : We W E (tRevL G.K te) r m K := fun s H Q e z g => by
  refine h s H _ e z fun d m1 v H1 s1 mu1 r1 ⟨q, xs, hd, ha, k⟩ => ?_
  subst hd
  cases r1
  have at1 := ha.rep mu1
  cases at1 with
  | lst hh rs =>
    refine ⟨_, _, rfl, SqL.of hh, fun p hp => ?_⟩
    exact g _ m1 _ _ (s1.trans (Stp.new hp)) (mu1.new hp) (.lst (fun zz => by obtain ⟨u, hu⟩ := mu1.there zz; rw [hp] at hu; cases hu) (.inl upd_same) (rs.rev.mono (Stp.new hp))) k
end

/-! ### errors made by an own class: C(e, ..) with an __init__ that keeps its arguments in fields -/
def spXI (C : Addr) (ns : List Str) : Sp := fun vs H Q _ => ∃ (a : Addr) (ys : List V), vs = .ref a :: ys ∧ ys.length = ns.length ∧ H a = some (exo a C none) ∧
  ∀ d H', H d = none → d ≠ a → (∀ b, b ≠ a → b ≠ d → H' b = H b) → H' a = some (exo a C (some d)) → H' d = some (exd d (ns.zip ys).reverse) → Q .non H'
structure Exc (G : Gx) (x : Str) (C : Addr) (ns : List Str) : Prop where
  ex : ∃ (f : Addr) (fd : FuncData) (ps : List Str), FnOk G.P G.w G.K G.mg G.base CX0 1 f fd ps (spXI C ns) ∧ Binds G.K fd ps [] ∧ PySem.W.findIn G.K (.ref C) "__init__" = some (some (.ref f)) ∧ PySem.W.typeIn G.K (.ref f) = some (.type "function")
  ox : OexC G.K C
  mgC : G.mg x = some (.ref C)
section
variable {X : Cx} {W : WX} {E : ET} {x : Str} {C : Addr} {ns : List Str} {e : Expr} {es : List Expr} {ta : TA} {p pos pos' : Pos} {j : Nat}
theorem pmkN_oex (c : Exc (Gx.of X) x C ns) (hr : Room j X.A) (hj : 2 ≤ j) (hg : Gl X x) (ha : PA X (e :: es) ta)
    (hdb : (x == ("__debug__" : Str)) = false := by decide) (he : starEach (e :: es) X.env = (false, eval e X.env) :: starEach es X.env := by rfl) (hpl : (backTo pos (starEach es X.env)).any (·.1) = false := by rfl) :
    L2N.PMk X (.Call (.Name x p) (e :: es) [] pos) (tMkO C (spXI C ns) [] ta) := by
  intro pins s σ H Q I h
  obtain ⟨fI, fd, ps, F1, hb, iC, tI⟩ := c.ex
  have T := c.ox
  obtain ⟨nm, q, N, bs, bm, sn, sub, ab, col, dd, k0, k1, k2, k3, k5, hC, hbm⟩ := T.cls
  refine wpAny_Call_Name_kw (ld_glob I hg c.mgC ?_ hdb)
  refine PySem.W.callWith_K (h₀ := X.base) I.ok.mod.kin T.kC (thn (ha.run pos pins s σ H _ I h) fun us s1 ⟨vs, H1, I1, r1, hz, q1⟩ => ⟨I1.kIn, ?_⟩) he hpl
  show wpAny _ _ (call (.ref C) us) _ _ _
  obtain ⟨hp, g, dr, tk, os⟩ := s1
  have hsz : hp.objs.size ≤ hp.objs.size + 1 := Nat.le_succ _
  have hn : H1 (hp.objs.size + 1) = none := I1.hok.fresh hsz
  have hq := q1 (hp.objs.size + 1) hn
  rw [List.append_nil] at hq
  have kk : ∀ b o, hp.get? b = some o → ((hp.push (PySem.W.kdv_tup us)).push (PySem.HandSPX.excO C hp.objs.size)).get? b = some o := fun b o e => Heap.get?_push_of_some _ (Heap.get?_push_of_some _ e)
  have hget : ((hp.push (PySem.W.kdv_tup us)).push (PySem.HandSPX.excO C hp.objs.size)).get? (hp.objs.size + 1) = some (PySem.HandSPX.excO C hp.objs.size) := by heap_get
  have I2 : Inv X pins σ (upd H1 (hp.objs.size + 1) (exo (hp.objs.size + 1) C none)) ⟨(hp.push (PySem.W.kdv_tup us)).push (PySem.HandSPX.excO C hp.objs.size), g, dr, tk, os⟩ :=
    I1.laid (t' := tk) (a := hp.objs.size + 1) (o := exo (hp.objs.size + 1) C none) (h' := (hp.push (PySem.W.kdv_tup us)).push (PySem.HandSPX.excO C hp.objs.size)) kk hsz (exo_ok hget)
  have r2 : Vals (V.ref (hp.objs.size + 1) :: vs) (Value.ref (hp.objs.size + 1) :: us) := .cons rfl r1
  have hl : (Value.ref (hp.objs.size + 1) :: us ++ []).length = ps.length := by
    have e := r2.length
    rw [F1.len _ _ _ _ hq] at e
    rw [List.append_nil]
    exact e.symm
  have hus : us.length ≤ sizeLine := by
    rw [← Paired.length r1, sizeLine_eq]
    omega
  have b2 := hb _ (Value.ref (hp.objs.size + 1) :: us) I2.kIn hl
  rw [List.append_nil] at b2
  refine wpAny_call (PySem.HandSPX.call_own F.excBase_ValueError (fun Y => PySem.HandSPX.refsVE_contains Y bm hbm) (I1.kIn _ _ hC) (PySem.W.looks_findIn I1.kIn iC) (fun self => PySem.W.bind_fn I1.kIn self tI) hus
    (codeAny_mono (F1.run _ X.stack _ _ ⟨Value.ref (hp.objs.size + 1) :: us, []⟩ (Value.ref (hp.objs.size + 1) :: us) _ _ (fun _ _ _ => False) ((hr.mono hj).make C us []) (I2.env0.make C us []) b2 r2 hq) fun r s' hq' => ?_))
  cases r with
  | error er => exact False.elim hq'
  | ok fl =>
    cases fl with
    | ret u =>
      obtain ⟨v, H2, os2, bare2, un2, hok2, rv, ev, d, fs, ea, ed, hd1, q2⟩ := hq'
      subst ev
      obtain ⟨h2, g2, d2, t2, os'⟩ := s'
      obtain ⟨t0, G, J, kG, ge, hoe, na⟩ := mk_end0 (d2 := d2) (t2 := t2) I1 hsz kk un2 hok2 os2 bare2 ea ed hd1
      exact ⟨rv, ⟨_, _, _, ⟨G, g2, d2, t2, os'⟩, _, .ref C, some d, rfl, J, kG, ge, hoe, ⟨rfl, rfl, fun vs e => by cases e; rfl⟩, rfl, rfl, na, rfl, bare2, raises_own T.exC T.tyC, q2⟩⟩
    | next => exact False.elim hq'
    | brk => exact False.elim hq'
    | cont => exact False.elim hq'
def tRs (C : Addr) (ns : List Str) (W : WX) (ta : TA) : TS := fun _ σ H => tMkO C (spXI C ns) [] ta σ H fun cls d H' => W cls d σ H'
theorem ps_rs (c : Exc (Gx.of X) x C ns) (hc : X.calm = true) (hr : Room j X.A) (hj : 2 ≤ j) (tk : L2N.Takes X W) (hg : Gl X x) (ha : PA X (e :: es) ta)
    (hdb : (x == ("__debug__" : Str)) = false := by decide) (he : starEach (e :: es) X.env = (false, eval e X.env) :: starEach es X.env := by rfl) (hpl : (backTo pos (starEach es X.env)).any (·.1) = false := by rfl) :
    PS X (.Raise (some (.Call (.Name x p) (e :: es) [] pos)) none pos') (tRs C ns W ta) := L2N.ps_raise hc tk (pmkN_oex c hr hj hg ha hdb he hpl)
theorem repF_zip {M : Addr → Prop} {H : Hp} : ∀ {ns : List Str} {ds : List D} {vs : List V}, ds.length = ns.length → Reps M H ds vs → RepF M H ns ds (ns.zip vs)
  | [], [], _, _, .nil => .nil
  | n :: ns, d :: ds, v :: vs, h, .cons r t => .cons r (repF_zip (by simpa using h) t)
theorem RepF.append {M : Addr → Prop} {H : Hp} : ∀ {n n' : List Str} {d d' : List D} {v v' : List (Str × V)}, RepF M H n d v → RepF M H n' d' v' → RepF M H (n ++ n') (d ++ d') (v ++ v')
  | _, _, _, _, _, _, .nil, h => h
  | _, _, _, _, _, _, .cons r t, h => .cons r (RepF.append t h)
theorem RepF.rev {M : Addr → Prop} {H : Hp} : ∀ {n : List Str} {d : List D} {v : List (Str × V)}, RepF M H n d v → RepF M H n.reverse d.reverse v.reverse
  | _, _, _, .nil => .nil
  | _, _, _, .cons r t => by
    rw [List.reverse_cons, List.reverse_cons, List.reverse_cons]
    exact RepF.append (RepF.rev t) (.cons r .nil)
theorem ws_rs {r : Rho} {m : Mu} {P : DEnds} (h : Wa W E ta r m fun ds m1 => ds.length = ns.length ∧ Nat.ble ds.length 1000 = true ∧ E ⟨C, ns.reverse, ds.reverse⟩ r m1) : Ws W E (tRs C ns W ta) r m P := fun s H De e z g =>
  h s H _ e z fun ds m1 vs H1 s1 mu1 r1 ⟨hl, h1000, q⟩ => by
    refine ⟨by rw [← r1.length]; exact Nat.le_of_ble_eq_true h1000, fun a ha => ?_⟩
    refine ⟨a, vs, by rw [List.append_nil], by rw [← r1.length, hl], upd_same, fun d H' hd hne hs h1 h2 => ⟨rfl, d, _, h1, h2, ?_, ?_⟩⟩
    · rw [upd_ne hne] at hd
      exact hd
    · rw [upd_ne hne] at hd
      have hd' : H1 d = none := hd
      have st : Stp (dom m1) H1 (dom m1) (upd (del H' a) d (.xd (ns.zip vs).reverse)) := fun b o hb hm => by
        have nbd : b ≠ d := fun e => by rw [e, hd'] at hb; cases hb
        have nba : b ≠ a := fun e => by rw [e, ha] at hb; cases hb
        rw [upd_ne nbd, del_ne nba, hs b nba nbd, upd_ne nba]
        exact ⟨hb, hm⟩
      have mu : MutR m1 (upd (del H' a) d (.xd (ns.zip vs).reverse)) := ⟨mu1.nd, fun q hq => (mu1.at_ q hq).mono st fun u hu => by
        have nbd : q.1 ≠ d := fun e => by rw [e, hd'] at hu; cases hu
        have nba : q.1 ≠ a := fun e => by rw [e, ha] at hu; cases hu
        rw [upd_ne nbd, del_ne nba, hs _ nba nbd, upd_ne nba]
        exact hu⟩
      have nd : ¬ dom m1 d := fun zz => by obtain ⟨u, hu⟩ := mu1.there zz; rw [hd'] at hu; cases hu
      refine z _ r m1 _ _ s _ (s1.trans st) (e.step (s1.trans st) mu) ⟨rfl, .inr ⟨d, _, rfl, upd_same, nd, ?_⟩⟩ q
      exact RepF.rev (repF_zip hl (r1.mono st))
end

/-! ### try: .. except X as n: .. -/
abbrev wNo : WX := fun _ _ _ _ => False
abbrev eNo : ET := fun _ _ _ => False
theorem takes0N {X : Cx} : L2N.Takes X wNo := fun _ _ x => by
  obtain ⟨_, _, _, _, _, _, _, _, _, _, _, _, _, _, _, _, z⟩ := x
  exact z.elim
abbrev pX (P : DEnds) (i : Nat) : DEnds := { nx := fun r m => P.nx (r.set i none) m, rt := P.rt, bk := fun r m => P.bk (r.set i none) m, ct := fun r m => P.ct (r.set i none) m }
def eAs (K : PySem.W.Frag) (c : Value) (i : Nat) (ts : Addr → Value → Option Addr → TS) (P : DEnds) (E : ET) : ET := fun x r' m' => ∃ b, PySem.W.exmOne K (.ref x.C) c = some b ∧
  (b = true → ∀ a dd, Ws wNo eNo (ts a (.ref x.C) dd) (r'.set i (some (.exc a dd x.C x.ns x.ds))) m' (pX P i)) ∧ (b = false → E x r' m')
section
variable {W : WX} {E : ET} {r : Rho} {m : Mu} {K : PySem.W.Frag} {P : DEnds} {c : Value} {i : Nat} {tb : WX → TS} {ts : Addr → Value → Option Addr → TS} {te : TE} {G : Gx} {KT' : KT}
theorem repX_exc {M : Addr → Prop} {H : Hp} {x : Ex} {cls : Value} {dd : Option Addr} {a : Addr} (h : RepX M H x cls dd) : Rep M H (.exc a dd x.C x.ns x.ds) (.ref a) := by
  obtain ⟨e, h⟩ := h
  obtain ⟨C, ns, ds⟩ := x
  rcases h with ⟨rfl, h1, h2⟩ | ⟨d, gs, rfl, h2, h3, h4⟩
  · have h1' : ns = [] := h1
    have h2' : ds = [] := h2
    subst h1' h2'
    exact .excN
  · exact .excS h3 h2 h4
def tTry (K : PySem.W.Frag) (c : Value) (i : Nat) (ts : Addr → Value → Option Addr → TS) (tb : WX → TS) (W : WX) : TS := fun D σ H => tb (wAs K c i ts W D) D σ H
theorem ps_tryD {X : Cx} {x n : Str} {b₀ : Stmt} {body suite : List Stmt} {np pos pos' : Pos} (hs : X.stack = X.env :: X.outer) (hf : X.env.frame = some X.env.locals) (hN : X.N.Nodup) (hi : X.N[i]? = some n) (hln : X.env.kindOf n = some .local) (hc : Names X x c) (tk : L2N.Takes X W)
    (hb : ∀ (W : WX) (pn : List (Addr × Obj)) (xe : Value → Shared → Prop), L2N.Takes (X.tr pn xe) W → PassesOwn (model X.prog X.w) X.A X.env xe → PSs (X.tr pn xe) body (tb W))
    (hsu : ∀ (a : Addr) (oe : Obj) (cls : Value) (d : Option Addr) (pn : List (Addr × Obj)), L2N.Zn cls d oe → (∃ vs, oe.data = .fields vs) → PSs (X.suite a ((a, oe) :: pn)) (b₀ :: suite) (ts a cls d)) :
    PS X (.Try body [.ExceptHandler (some (.Name x np)) (some n) (b₀ :: suite) pos'] [] [] pos) (tTry X.K c i ts tb W) := L2N.ps_try_as hs hf hN hi hln hc tk hb hsu
theorem ws_try (h : ∀ W', Ws W' (eAs K c i ts P E) (tb W') r m P) : Ws W E (tTry K c i ts tb W) r m P := fun s H De e z g => by
  refine h (wAs K c i ts W De) s H De e ?_ g
  intro x r' m' cls dd s' H' st er rx ⟨b, hb, ht, hf⟩
  obtain rfl := rx.1
  refine ⟨b, hb, fun hbt a ha => ?_, fun hbf => z x r' m' _ dd s' H' st er rx (hf hbf)⟩
  have g' := g.step st
  refine ht hbt a dd _ H' _ (er.put (repX_exc rx)) (fun _ _ _ _ _ _ _ _ _ _ q => q.elim) ?_
  have back : ∀ {r2 : Rho} {m2 : Mu} {s2 : L2.St} {H2 : Hp}, EnvR r2 m2 s2 H2 → EnvR (r2.set i none) m2 (s2.set i none) H2 := fun e2 => ⟨e2.env.set (.none _) i, e2.mu⟩
  exact ⟨fun r2 m2 s2 H2 a2 b2 q => g'.nx _ m2 _ H2 a2 (back b2) q, g'.rt, fun r2 m2 s2 H2 a2 b2 q => g'.bk _ m2 _ H2 a2 (back b2) q, fun r2 m2 s2 H2 a2 b2 q => g'.ct _ m2 _ H2 a2 (back b2) q⟩
/-- e.f in the suite -/
def tXfD (K : PySem.W.Frag) (a : Addr) (cls : Value) (d : Option Addr) (f : Str) (te : TE) : TE := fun σ H Q => ∃ C, XfC K C ∧ PySem.W.findIn K (.ref C) f = some none ∧ tXf a cls d C f te σ H Q
theorem pe_xfD {X : Cx} {a : Addr} {oe : Obj} {cls : Value} {d : Option Addr} {pn : List (Addr × Obj)} {e : Expr} {te : TE} {pos : Pos} {f : Str}
    (hz : L2N.Zn cls d oe) (hf : ∃ vs, oe.data = .fields vs) (he : PE (X.suite a ((a, oe) :: pn)) e te) (hb : attributeBase e f X.env (eval e X.env) = eval e X.env := by rfl) :
    PE (X.suite a ((a, oe) :: pn)) (.Attribute e f pos) (tXfD X.K a cls d f te) := ⟨fun pins s σ H Q I ⟨C, T, hno, h⟩ => (pe_xf T hno hz.zc hf he hb).run pins s σ H Q I h⟩
theorem we_xf {a C : Addr} {dd : Option Addr} {f : Str} (T : XfC G.K C) (hno : PySem.W.findIn G.K (.ref C) f = some none)
    (h : We W E te r m fun d m1 => ∃ ns ds x, d = .exc a dd C ns ds ∧ fix f ns ds = some x ∧ KT' x m1) : We W E (tXfD G.K a (.ref C) dd f te) r m KT' := fun s H Q e z g =>
  ⟨C, T, hno, h s H _ e z fun d m1 v H1 s1 mu1 r1 ⟨ns, ds, x, hd, hx, k⟩ => by
    subst hd
    cases r1 with
    | excN => simp [fix] at hx
    | excS mm hh rf =>
      obtain ⟨y, h1, h2⟩ := rf.look hx
      exact ⟨rfl, rfl, _, _, y, rfl, hh, h1, g x m1 y H1 s1 mu1 h2 k⟩⟩
end
end DL
set_option Elab.async false
set_option linter.all false
set_option maxRecDepth 100000
/-! DL8: the script, the ends, the steps as a word. -/
namespace DL
open PySem PySem.Spec L2
open PyProof.Rows hiding St
theorem hotc {cls : Value} {d : Option Addr} {oe : Obj} (hz : L2N.Zn cls d oe) (hf : ∃ vs, oe.data = .fields vs) : ∃ vs, oe.data = .fields vs ∧ vs[2]? = some .none := by
  obtain ⟨vs, h⟩ := hf
  exact ⟨vs, h, hz.2.2 vs h⟩
/-- the script as the law gets it -/
inductive ScrD (KF : PySem.W.Frag) : D → List Int → Prop
  | lst {ns : List Int} : ScrD KF (.lst (ns.map D.int)) ns
  | ref {a : Addr} {ns : List Int} (h : ∀ H, SqL KF H a (ns.map V.int)) : ScrD KF (.ref a) ns
section
variable {W : WX} {E : ET} {r : Rho} {m : Mu} {K : KT} {G : Gx} {te : TE}
theorem we_slS {tl th : TO} (h : We W E te r m fun d m1 => ∃ ns, ScrD G.K d ns ∧ Wo W E tl r m1 fun lo m2 => Wo W E th r m2 fun hi m3 => K (.lst (cutD (ns.map D.int) lo hi)) m3) : We W E (tSl (rSlL G.K) te tl th) r m K := fun s H Q e z g =>
  h s H _ e z fun d m1 v H1 s1 mu1 r1 ⟨ns, sd, q⟩ => by
    refine q s H1 _ (e.step s1 mu1) (z.step s1) fun lo m2 H2 s2 mu2 q2 => ?_
    refine q2 s H2 _ ((e.step s1 mu1).step s2 mu2) ((z.step s1).step s2) fun hi m3 H3 s3 mu3 k => ?_
    have r3 := (r1.mono s2).mono s3
    cases sd with
    | lst =>
      cases r3 with
      | lst mm hh rs =>
        refine ⟨_, _, rfl, rd_l hh, fun p hp => ?_⟩
        exact g _ m3 _ _ (((s1.trans s2).trans s3).trans (Stp.new hp)) (mu3.new hp) (.lst (fun zz => by obtain ⟨u, hu⟩ := mu3.there zz; rw [hp] at hu; cases hu) (.inl upd_same) ((rs.cut lo hi).mono (Stp.new hp))) k
    | ref h =>
      cases r3
      refine ⟨_, _, rfl, h H3, fun p hp => ?_⟩
      exact g _ m3 _ _ (((s1.trans s2).trans s3).trans (Stp.new hp)) (mu3.new hp) (.lst (fun zz => by obtain ⟨u, hu⟩ := mu3.there zz; rw [hp] at hu; cases hu) (.inl upd_same) (((Reps.ints ns).cut lo hi).mono (Stp.new hp))) k
theorem scr_of {KF : PySem.W.Frag} {H : Hp} {a : Addr} {ns : List Int} (h : SqL KF H a (ns.map V.int)) : ∃ d, ScrD KF d ns ∧ Rep (dom []) H d (.ref a) := by
  rcases h with h | h
  · exact ⟨_, .lst, .lst dom_nil h (Reps.ints ns)⟩
  · exact ⟨_, .ref fun H' => .inr h, .ref a⟩
end
theorem cut63 {xs : List D} (h : xs.length ≤ 63) : cutD xs none (some 63) = xs := by
  unfold cutD
  have e1 : HT.sIx xs.length 0 none = 0 := rfl
  have e2 : HT.sIx xs.length xs.length (some 63) = xs.length := by
    rw [show (some (63 : Int)) = some ((63 : Nat) : Int) from rfl, HT.sIx_nat]
    omega
  rw [e1, e2, List.drop_zero, Nat.sub_zero, List.take_length]

theorem rH {k : Nat} {A : Around} {h : Option Value} (r : L2.Room k A) : L2H.RoomH k (A.mark h) := ⟨r.dp, r.un⟩
/-! ### sizes -/
theorem log2_of {x : Int} {n : Nat} (h : x.natAbs < 2 ^ n) (h0 : 0 < n) : x.natAbs.log2 < n := PySem.Flt.log2_lt_of h0 h
def Bd (n : Nat) (x : Int) : Prop := x.natAbs < 2 ^ n
theorem Bd.mono {a b : Nat} {x : Int} (h : Bd a x) (l : a ≤ b) : Bd b x := Nat.lt_of_lt_of_le h (Nat.pow_le_pow_right (by decide) l)
theorem Bd.mul {a b : Nat} {x y : Int} (h : Bd a x) (k : Bd b y) : Bd (a + b) (x * y) := wide_lt h k
theorem Bd.add {a : Nat} {x y : Int} (h : Bd a x) (k : Bd a y) : Bd (a + 1) (x + y) := by
  unfold Bd at *
  rw [Nat.pow_succ]
  omega
theorem Bd.sub {a : Nat} {x y : Int} (h : Bd a x) (k : Bd a y) : Bd (a + 1) (x - y) := by
  unfold Bd at *
  rw [Nat.pow_succ]
  omega
theorem Bd.neg {a : Nat} {x : Int} (h : Bd a x) : Bd a (-x) := by
  unfold Bd at *
  omega
theorem Bd.ok {a : Nat} {x : Int} (h : Bd a x) : x.natAbs.log2 ≤ a := by
  have := log2_of (n := a + 1) (h.mono (Nat.le_succ a)) (Nat.succ_pos a)
  omega
theorem Bd.mulX {a b : Nat} {x y : Int} (h : Bd a x) (k : Bd b y) (l : a + b < 100000000) : CMulX x y := by
  have := h.ok
  have := k.ok
  unfold CMulX
  omega
theorem Bd.divX {a : Nat} {x y : Int} (h : Bd a y) (n : y ≠ 0) (l : a < 9000) : CDivX x y := ⟨n, .inl (by have := h.ok; omega)⟩
theorem bd_lit {x : Int} {n : Nat} (h : x.natAbs.blt (2 ^ n) = true) : Bd n x := Nat.le_of_ble_eq_true h

/-! ### the pot that a law draws from -/
def PotM (p : Addr) (m0 m : Mu) : Prop := ∃ (cs : List Int) (i r : Int), m = (p, .lst [.lst (cs.map D.int), .int i, .int r]) :: m0 ∧ 0 ≤ i ∧ 0 ≤ r ∧ ∀ c ∈ cs, 0 ≤ c
def S_pot (KF : PySem.W.Frag) : SpecD := fun ds m K _ => ∃ d ns, ds = [d] ∧ ScrD KF d ns ∧ ns.length ≤ 63 ∧ ∀ p m', ¬ dom m p → PotM p m m' → K (.ref p) m'
def S_digit : SpecD := fun ds m K _ => ∃ p many m0, ds = [.ref p, .int many] ∧ 0 < many ∧ Bd 8000 many ∧ PotM p m0 m ∧ ∀ dg m', 0 ≤ dg → dg < many → PotM p m0 m' → K (.int dg) m'

theorem cx_G {G : Gx} {N : List Str} {qual : Str} {st : Stmt} {f : Addr} {cdv : Value} {A : Around} {outer : List Env} {s : Shared} {H : Hp} {F : XK} : Gx.of (cxG G N qual st f cdv A outer s H F) = G := rfl
theorem cx_K {G : Gx} {N : List Str} {qual : Str} {st : Stmt} {f : Addr} {cdv : Value} {A : Around} {outer : List Env} {s : Shared} {H : Hp} {F : XK} : (cxG G N qual st f cdv A outer s H F).K = G.K := rfl
theorem cxH_G {G : Gx} {N : List Str} {qual : Str} {st : Stmt} {f : Addr} {cdv : Value} {A : Around} {outer : List Env} {s : Shared} {H : Hp} {F : XK} {p : Addr × Obj} : Gx.of (cxGH G N qual st f cdv A outer s H F p) = G := rfl
theorem cxH_K {G : Gx} {N : List Str} {qual : Str} {st : Stmt} {f : Addr} {cdv : Value} {A : Around} {outer : List Env} {s : Shared} {H : Hp} {F : XK} {p : Addr × Obj} : (cxGH G N qual st f cdv A outer s H F p).K = G.K := rfl
/-- an item of a list of numbers -/
theorem atI_ints {cs : List Int} {i : Int} (h0 : 0 ≤ i) (h1 : i < (cs.length : Int)) : ∃ c, c ∈ cs ∧ atI (cs.map D.int) i = some (.int c) := by
  obtain ⟨n, rfl⟩ := Int.eq_ofNat_of_zero_le h0
  have hn : n < cs.length := by omega
  refine ⟨cs[n], List.getElem_mem hn, atI_nat ?_⟩
  rw [List.getElem?_map, List.getElem?_eq_getElem hn]
  rfl
theorem use_digit {p : Addr} {many : Int} {m m0 : Mu} {K : KT} {E : Ex → Mu → Prop} (h0 : 0 < many) (hb : Bd 8000 many) (hm : PotM p m0 m) (k : ∀ dg m', 0 ≤ dg → dg < many → PotM p m0 m' → K (.int dg) m') : S_digit [.ref p, .int many] m K E :=
  ⟨p, many, m0, rfl, h0, hb, hm, k⟩

section
variable {W : WX} {E : ET} {r : Rho} {m : Mu} {K : KT} {S : SpecD} {n : Nat} {t : TA} {C : Addr} {G : Gx} {te : TE}
theorem Wa.imp {KA KA' : List D → Mu → Prop} (h : Wa W E t r m KA) (k : ∀ ds m', KA ds m' → KA' ds m') : Wa W E t r m KA' := fun s H Q e z g => h s H Q e z fun ds m' vs H' a b c x => g ds m' vs H' a b c (k ds m' x)
theorem we_cl0 (h : Wa W E t r m fun ds m1 => ds.length = n ∧ S ds m1 K fun x m' => E x r m') : We W E (tCl n S [] W t) r m K :=
  we_cl rfl (h.imp fun ds m' k => by rw [List.append_nil]; exact k)
theorem we_mk0 (h : Wa W E t r m fun ds m1 => ds.length + 1 = n ∧ ∀ x, ¬ dom m1 x →
    S (.ref x :: ds) ((x, .ins C [] []) :: m1) (fun d m2 => ∃ ns fs, d = .non ∧ m2 = (x, .ins C ns fs) :: m1 ∧ K (.ins C ns fs) m1) fun ex m2 => ∃ o, m2 = (x, o) :: m1 ∧ E ex r m1) : We W E (tMk C n S [] W t) r m K :=
  we_mk rfl (h.imp fun ds m' k => by rw [List.append_nil]; exact k)
/-- one more argument by default -/
theorem we_mk1 {d1 : D} (hc : isC d1 = true) (h : Wa W E t r m fun ds m1 => ds.length + 1 + 1 = n ∧ ∀ x, ¬ dom m1 x →
    S (.ref x :: (ds ++ [d1])) ((x, .ins C [] []) :: m1) (fun d m2 => ∃ ns fs, d = .non ∧ m2 = (x, .ins C ns fs) :: m1 ∧ K (.ins C ns fs) m1) fun ex m2 => ∃ o, m2 = (x, o) :: m1 ∧ E ex r m1) : We W E (tMk C n S [d1] W t) r m K :=
  we_mk (by rw [List.all_cons, hc]; rfl) (h.imp fun ds m' k => ⟨by rw [List.length_append]; exact k.1, k.2⟩)
/-- a field of a fixed instance -/
theorem we_fldF {f : Str} (h : We W E te r m fun d m1 => ∃ C ns ds x, d = .ins C ns ds ∧ Cls G.K C ∧ NoAttr G.K C f ∧ fix f ns ds = some x ∧ K x m1) : We W E (tFld G.K te f) r m K :=
  we_fld (h.imp fun d m1 ⟨C, ns, ds, x, hd, q⟩ => ⟨C, ns, ds, x, by rw [hd]; exact .fixed, q⟩)
end
/-! ### Ratio: top, bottom -/
abbrev rat (C : Addr) (t b : Int) : D := .ins C ["top", "bottom"] [.int t, .int b]
theorem fix_top {a b : D} : fix "top" ["top", "bottom"] [a, b] = some a := by simp [fix]
theorem nbt : ¬ (("bottom" : Str) = "top") := by decide +kernel
theorem ntb : ¬ (("top" : Str) = "bottom") := by decide +kernel
theorem fix_bottom {a b : D} : fix "bottom" ["top", "bottom"] [a, b] = some b := by simp [fix, nbt]
structure RatC (K : PySem.W.Frag) (C : Addr) : Prop where
  ins : InsK K C
  at_ : NoAttr K C "top"
  ab : NoAttr K C "bottom"
section
variable {K : PySem.W.Frag} {KK : D → Prop} {C : Addr} {t b : Int}
theorem fld_top (R : RatC K C) (h : KK (.int t)) : ∃ C' ns ds x, rat C t b = .ins C' ns ds ∧ Cls K C' ∧ NoAttr K C' "top" ∧ fix "top" ns ds = some x ∧ KK x := ⟨_, _, _, _, rfl, R.ins.cl, R.at_, fix_top, h⟩
theorem fld_bottom (R : RatC K C) (h : KK (.int b)) : ∃ C' ns ds x, rat C t b = .ins C' ns ds ∧ Cls K C' ∧ NoAttr K C' "bottom" ∧ fix "bottom" ns ds = some x ∧ KK x := ⟨_, _, _, _, rfl, R.ins.cl, R.ab, fix_bottom, h⟩
end

theorem kit_ii {K : PySem.W.Frag} : PySem.W.kitOne K (.type "int") (.type "int") = some true := kit_ty (by decide +kernel)
theorem kit_ib {K : PySem.W.Frag} : PySem.W.kitOne K (.type "int") (.type "bool") = some false := kit_ty (by decide +kernel)
section
variable {K : PySem.W.Frag} {C : Addr} {m0 : Mu} {x : Addr} {d e : D} {N : Mu → Prop}
theorem cont_tb : (["top"] : List Str).contains "bottom" = false := by decide +kernel
theorem setN_top (R : RatC K C) (h : N ((x, .ins C ["top"] [d]) :: m0)) : ∃ p C' ns ds m3, D.ref x = .ref p ∧ At ((x, MO.ins C [] []) :: m0) p (.ins C' ns ds) ∧ Cls K C' ∧ NoAttr K C' "top" ∧ ns.contains "top" = false ∧ Nat.ble ns.length 900 = true ∧ Put ((x, MO.ins C [] []) :: m0) p (.ins C' (ns ++ [("top" : Str)]) (ds ++ [d])) m3 ∧ N m3 :=
  ⟨_, _, _, _, _, rfl, .head, R.ins.cl, R.at_, rfl, rfl, .head, h⟩
theorem setN_bottom (R : RatC K C) (h : N ((x, .ins C ["top", "bottom"] [d, e]) :: m0)) : ∃ p C' ns ds m3, D.ref x = .ref p ∧ At ((x, MO.ins C ["top"] [d]) :: m0) p (.ins C' ns ds) ∧ Cls K C' ∧ NoAttr K C' "bottom" ∧ ns.contains "bottom" = false ∧ Nat.ble ns.length 900 = true ∧ Put ((x, MO.ins C ["top"] [d]) :: m0) p (.ins C' (ns ++ [("bottom" : Str)]) (ds ++ [e])) m3 ∧ N m3 :=
  ⟨_, _, _, _, _, rfl, .head, R.ins.cl, R.ab, cont_tb, rfl, .head, h⟩
end
/-- what is left mutable at a return is let go -/
theorem MutR.dropn {H : Hp} : ∀ {m : Mu} (k : Nat), MutR m H → MutR (m.drop k) H
  | _, 0, h => h
  | [], _ + 1, h => h
  | _ :: m, k + 1, h => MutR.dropn (m := m) k h.drop
theorem dom_dropn {a : Addr} : ∀ {m : Mu} (k : Nat), dom (m.drop k) a → dom m a
  | _, 0, h => h
  | [], _ + 1, h => h
  | _ :: m, k + 1, h => dom_cons.mpr (.inr (dom_dropn (m := m) k h))
theorem Ws.shed {W : WX} {E : ET} {t : TS} {r : Rho} {m : Mu} {P : DEnds} (h : Ws W E t r m { P with rt := fun d m' => ∃ k, P.rt d (m'.drop k) }) : Ws W E t r m P := fun s H De e z g =>
  h s H De e z ⟨g.nx, fun d m' v H' a b c ⟨k, q⟩ => by
    have ls : Stp (dom m') H' (dom (m'.drop k)) H' := Stp.less fun a z => dom_dropn k z
    exact g.rt d _ v H' (a.trans ls) (b.dropn k) (c.mono ls) q, g.bk, g.ct⟩
/-- a list of a function's values, from the end -/
theorem atI_neg {α : Type} {xs : List α} {n : Nat} {v : α} (h0 : 0 < n) (hn : n ≤ xs.length) (h : xs[xs.length - n]? = some v) : atI xs (-(n : Int)) = some v := by
  unfold atI ixN
  rw [if_neg (by omega), if_pos (by omega)]
  have e : (-(n : Int) + (xs.length : Int)).toNat = xs.length - n := by omega
  rw [e]
  exact h
theorem range_at {f : Nat → D} {n i : Nat} (h : i < n) : ((List.range n).map f)[i]? = some (f i) := by
  rw [List.getElem?_map, List.getElem?_range h]
  rfl
theorem range_m1 {f : Nat → D} (k : Nat) : atI ((List.range (k + 1)).map f) (-1) = some (f k) :=
  atI_neg (n := 1) (by omega) (by simp) (by simp only [List.length_map, List.length_range]; exact range_at (by omega))
theorem range_m2 {f : Nat → D} (k : Nat) : atI ((List.range (k + 2)).map f) (-2) = some (f k) :=
  atI_neg (n := 2) (by omega) (by simp) (by simp only [List.length_map, List.length_range]; exact range_at (by omega))
theorem range_snoc {f : Nat → D} (k : Nat) : (List.range k).map f ++ [f k] = (List.range (k + 1)).map f := by
  rw [List.range_succ, List.map_append]
  rfl
theorem pe_gcD {X : Cx} {x : Str} {v : V} {pos : Pos} (hg : Gl X x) (h : ∃ u, X.mg x = some u ∧ RelV v u) (hd : (x == ("__debug__" : Str)) = false := by decide) : PE X (.Name x pos) (tC v) := by
  obtain ⟨u, hm, r⟩ := h
  exact pe_glob hg hm r hd
/-! ### the end -/
def S_law (KF : PySem.W.Frag) : SpecD := fun ds m KK _ => ∃ d ns, ds = [d] ∧ ScrD KF d ns ∧ ns.length ≤ 63 ∧ (∀ z ∈ ns, Builtin.Int.intBits z ≤ 1048576) ∧ m = [] ∧ ∀ m', KK (.bl true) m'
theorem walkB {l : PySem.W.OpenLaw} {k : Nat} {q : Program} {loose : List Str} {XP : (Str → Option Value) → Heap → Prop} {YP : World → Heap → Prop} {d : DefRec} {K : Params → PySem.W.Frag} {x : Str}
    (hn : l.most = some 63) (hdf : d.params.defaults = []) (hr : Room k callerA)
    (hY : ∀ (w : World) (h : Heap), YP w h → (K w.params).In h)
    (F : ∀ (w : World) (mg : Str → Option Value) (fa : Addr) (h : Heap), (K w.params).In h → h.Ns mainGlobals mg → mg d.name = some (.ref fa) →
      ∃ fd : FuncData, (∀ (s : Shared) (u : Value), BindsTo s fd ⟨[u], []⟩ [(x, u)]) ∧
        ∀ base : Heap, (K w.params).In base → base.Ns mainGlobals mg → FnOk l.prog w (K w.params) mg base (L2N.CX l.prog w) k fa fd [x] (spD 1 (S_law (K w.params)))) :
    PySem.W.WalkO q loose XP YP l.row.toRowW d [] (fun f vs => PySem.call f vs) :=
  L2.walk_ofB (n := 63) (k := k) (x := x) (CX := fun w => L2N.CX l.prog w) (sp := fun w => spD 1 (S_law (K w.params))) hn (by decide) hdf hr hY F
    (fun w H a ns hl hb _ h => by
      obtain ⟨dd, sd, rp⟩ := scr_of h
      exact ⟨[dd], [], fun d' _ => d' = .bl true, fun _ _ => False, rfl, .cons rp .nil, MutR.nil H, ⟨dd, ns, rfl, sd, hl, hb, rfl, fun m' => rfl⟩, fun d' m' v H' _ _ rp' e => by subst e; cases rp'; rfl, fun _ _ _ _ _ _ _ _ e => e.elim⟩)
    fun w H s e s' z => by
      obtain ⟨_, _, _, _, _, _, _, _, _, _, _, _, z⟩ := z
      exact z.elim
end DL
set_option Elab.async false
set_option linter.all false
set_option maxRecDepth 100000
/-! DL9: isinstance of a caught error; errors made without arguments; several except clauses. -/
namespace DL
open PySem PySem.Spec L2
open PyProof.Rows hiding St
/-- the class of a caught error, as isinstance asks -/
structure ExK (K : PySem.W.Frag) (D : Addr) : Prop where
  xf : XfC K D
  ic : PySem.W.isClsIn K D = true
  ha : PySem.W.findIn K (.ref D) "__class__" = some (some (.builtin "object.__class__"))
  hn : PySem.W.specialIn K (.builtin "object.__class__") "__get__" = some (some (.builtin "getset_descriptor.__get__"))
  ht : PySem.W.takesIn K (.builtin "object.__class__") = some true
  hm : PySem.W.mroIn K D (.type "object") = some true
def cIsE (K : PySem.W.Frag) (a : Addr) (cls : Value) (d : Option Addr) : OC := fun xs _ H Q => ∃ (D : Addr) (c : V) (u : Value) (b : Bool), cls = .ref D ∧ ExK K D ∧ xs = [.ref a, c] ∧ ClsV c u ∧ PySem.W.kitOne K (.ref D) u = some b ∧
  (d = none ∨ ∃ (dd : Addr) (gs : List (Str × V)), d = some dd ∧ H dd = some (.xd gs)) ∧ Q (.bl b) H
theorem cs_isE {X : Cx} {a : Addr} {cls : Value} {d : Option Addr} {oe : Obj} {pn : List (Addr × Obj)} (hz : L2N.Zn cls d oe) (hf : ∃ vs, oe.data = .fields vs) : CallS (X.suite a ((a, oe) :: pn)) (.builtin "isinstance") (cIsE X.K a cls d) := by
  intro pins s σ H xs us Q I ru h
  obtain ⟨D, c, u, b, rfl, T, rfl, hc, hk, hd, q⟩ := h
  cases ru with
  | cons ra rt =>
    cases rt with
    | cons rc rt =>
      cases rt
      cases ra
      have ec := hc.eq rc
      subst ec
      obtain ⟨hget, _⟩ := I.pin (a, oe) (List.mem_append_left _ List.mem_cons_self)
      obtain ⟨vs, hv⟩ := hf
      have hno : PySem.W.notCls oe = true := by unfold PySem.W.notCls; rw [hv] <;> rfl
      have J : ∃ od, PySem.W.InstAt s.heap a oe D od := by
        rcases hd with rfl | ⟨dd, gs, rfl, hx⟩
        · exact ⟨none, hget, hz.1, hno, by rw [hz.2.1]; trivial⟩
        · have hx : ObjOk X.prog X.w H s.heap dd (.xd gs) := I.hok dd _ hx
          obtain ⟨mA, hns, _⟩ := hx
          obtain ⟨od, ho, _⟩ := lookIn_ns hns
          exact ⟨some od, hget, hz.1, hno, by rw [hz.2.1]; exact ho⟩
      obtain ⟨od, J⟩ := J
      exact PySem.W.kia_one (PySem.W.kitx_exc T.ic T.xf.ga T.xf.gg T.xf.exC T.ha T.hn T.ht T.hm) I.kIn J hk (fun z => nomatch z) fun tk => ⟨.bl b, H, I.kept (t' := tk) fun _ _ z => z, rfl, q⟩
section
variable {W : WX} {E : ET} {r : Rho} {m : Mu} {K : KT} {G : Gx} {a C : Addr} {dd : Option Addr} {ns : List Str} {ds : List D}
theorem exc_dd {M : Addr → Prop} {H : Hp} {v : V} (h : Rep M H (.exc a dd C ns ds) v) : v = .ref a ∧ (dd = none ∨ ∃ (x : Addr) (gs : List (Str × V)), dd = some x ∧ H x = some (.xd gs)) := by
  cases h with
  | excN => exact ⟨rfl, .inl rfl⟩
  | excS mm hh rr => exact ⟨rfl, .inr ⟨_, _, rfl, hh⟩⟩
theorem wc_isEC {B : Addr} {b : Bool} (T : ExK G.K C) (hk : PySem.W.kitOne G.K (.ref C) (.ref B) = some b) (h : K (.bl b) m) : Wc W E (cIsE G.K a (.ref C) dd) [.exc a dd C ns ds, .ref B] r m K := fun s H Q vs e z rs g => by
  cases rs with
  | cons x tt =>
    cases tt with
    | cons c tt =>
      cases tt; cases c
      obtain ⟨rfl, hd⟩ := exc_dd x
      exact ⟨C, _, .ref B, b, rfl, T, rfl, .own B, hk, hd, g _ m _ H (Stp.refl _ _) e.mu (.bl _) h⟩
theorem wc_isET {n : String} {b : Bool} (T : ExK G.K C) (hk : PySem.W.kitOne G.K (.ref C) (.type n) = some b) (h : K (.bl b) m) : Wc W E (cIsE G.K a (.ref C) dd) [.exc a dd C ns ds, .ty n] r m K := fun s H Q vs e z rs g => by
  cases rs with
  | cons x tt =>
    cases tt with
    | cons c tt =>
      cases tt; cases c
      obtain ⟨rfl, hd⟩ := exc_dd x
      exact ⟨C, _, .type n, b, rfl, T, rfl, .ty n, hk, hd, g _ m _ H (Stp.refl _ _) e.mu (.bl _) h⟩
end
/-! ### raise C(), C an own class without an __init__ -/
structure Exc0 (G : Gx) (x : Str) (C : Addr) : Prop where
  q : PySem.W.excIn G.K C [.type "ValueError", .type "Exception", .type "BaseException", .type "object"] "ValueError.__new__" = true
  kC : PySem.W.keepIn G.K (.ref C) = true
  exC : PySem.W.subIn G.K (.ref C) (.type "BaseException") = some true
  tyC : PySem.W.typeIn G.K (.ref C) = some (.type "type")
  mgC : G.mg x = some (.ref C)
def tRs0 (C : Addr) (W : WX) : TS := fun _ σ H => W (.ref C) none σ H
section
variable {X : Cx} {W : WX} {E : ET} {x : Str} {C : Addr} {p pos pos' : Pos} {r : Rho} {m : Mu} {P : DEnds}
theorem pmkN_own0 (c : Exc0 (Gx.of X) x C) (hg : Gl X x) (hdb : (x == ("__debug__" : Str)) = false := by decide) : L2N.PMk X (.Call (.Name x p) [] [] pos) (fun _ H Q => Q (.ref C) none H) := by
  intro pins s σ H Q I h
  refine wpAny_Call_Name_kw (ld_glob I hg c.mgC ?_ hdb)
  refine PySem.W.callWith_K0 I.kIn c.kC ?_
  obtain ⟨bm, Na, nm, qn, bs, hdct, sn, sub, ab, col, dd, k0, k1, k2, k3, k5, mN, hC, hN, hni, T⟩ := exc_obj I.kIn c.q
  exact wpAny_call_exc_subT PySem.F.excBase_ValueError T hC hN hni (fun h' e hm => L2N.mk_of I hm (raises_own c.exC c.tyC) h (I.hok.gone hm.new)) (by show 0 ≤ sizeLine; exact Nat.zero_le _)
theorem ps_rs0 (c : Exc0 (Gx.of X) x C) (hc : X.calm = true) (tk : L2N.Takes X W) (hg : Gl X x) (hdb : (x == ("__debug__" : Str)) = false := by decide) :
    PS X (.Raise (some (.Call (.Name x p) [] [] pos)) none pos') (tRs0 C W) := L2N.ps_raise hc tk (pmkN_own0 c hg hdb)
theorem ws_rs0 (h : E ⟨C, [], []⟩ r m) : Ws W E (tRs0 C W) r m P := fun s H De e z g => z _ r m _ _ s H (Stp.refl _ _) e ⟨rfl, .inl ⟨rfl, rfl, rfl⟩⟩ h
end
/-! ### several clauses: except C1 as n: .., except C2 as n: .. -/
end DL
set_option Elab.async false
set_option linter.all false
/-! MR: fractions in lowest terms, Euclid's turns. -/
namespace DL
open PySem PySem.Spec L2
/-! ### lowest terms -/
def gc (t b : Int) : Int := (Nat.gcd t.natAbs b.natAbs : Nat)
def rT (t b : Int) : Int := if b < 0 then -t / gc t b else t / gc t b
def rB (t b : Int) : Int := if b < 0 then -b / gc t b else b / gc t b
theorem gc_pos {t b : Int} (h : b ≠ 0) : 0 < gc t b := by
  have : 0 < Nat.gcd t.natAbs b.natAbs := Nat.gcd_pos_of_pos_right _ (by omega)
  unfold gc; omega
theorem gc_dvd1 (t b : Int) : gc t b ∣ t := Int.ofNat_dvd_left.mpr (Nat.gcd_dvd_left _ _)
theorem gc_dvd2 (t b : Int) : gc t b ∣ b := Int.ofNat_dvd_left.mpr (Nat.gcd_dvd_right _ _)
theorem gc_bd {t b : Int} {n : Nat} (h : b ≠ 0) (hb : Bd n b) : Bd n (gc t b) := by
  have : Nat.gcd t.natAbs b.natAbs ≤ b.natAbs := Nat.le_of_dvd (by omega) (Nat.gcd_dvd_right _ _)
  unfold Bd gc at *
  omega
theorem fdiv_pos {a g : Int} (h : 0 < g) : a.fdiv g = a / g := Int.fdiv_eq_ediv_of_nonneg _ (by omega)
theorem fdiv_neg' {a g : Int} (h : 0 < g) (d : g ∣ a) : a.fdiv (-g) = -a / g := by
  obtain ⟨c, rfl⟩ := d
  have e1 : g * c = (-g) * (-c) := by rw [Int.neg_mul_neg]
  have e2 : -(g * c) = g * (-c) := by rw [Int.mul_neg]
  rw [e2, Int.mul_ediv_cancel_left _ (by omega), e1, Int.mul_comm]
  exact Int.mul_fdiv_cancel _ (by omega)
/-- t = g * rT up to the sign of b -/
theorem rat_eqs {t b : Int} (h : b ≠ 0) : ∃ g : Int, g ≠ 0 ∧ t = g * rT t b ∧ b = g * rB t b ∧ 0 < rB t b := by
  have gp := gc_pos (t := t) h
  obtain ⟨c, hc⟩ := gc_dvd1 t b
  obtain ⟨d, hd⟩ := gc_dvd2 t b
  by_cases hb : b < 0
  · refine ⟨-gc t b, by omega, ?_, ?_, ?_⟩
    · unfold rT; rw [if_pos hb]
      have : -t / gc t b = -c := by
        have e : -t = gc t b * (-c) := by rw [Int.mul_neg, ← hc]
        rw [e, Int.mul_ediv_cancel_left _ (by omega)]
      rw [this, Int.neg_mul_neg]; exact hc
    · unfold rB; rw [if_pos hb]
      have : -b / gc t b = -d := by
        have e : -b = gc t b * (-d) := by rw [Int.mul_neg, ← hd]
        rw [e, Int.mul_ediv_cancel_left _ (by omega)]
      rw [this, Int.neg_mul_neg]; exact hd
    · unfold rB; rw [if_pos hb]
      exact Int.ediv_pos_of_pos_of_dvd (by omega) (by omega) (Int.dvd_neg.mpr ⟨d, hd⟩)
  · refine ⟨gc t b, by omega, ?_, ?_, ?_⟩
    · unfold rT; rw [if_neg hb]
      have : t / gc t b = c := by
        have e : t = gc t b * c := hc
        rw [show t / gc t b = (gc t b * c) / gc t b by rw [← e], Int.mul_ediv_cancel_left _ (by omega)]
      rw [this]; exact hc
    · unfold rB; rw [if_neg hb]
      have : b / gc t b = d := by
        have e : b = gc t b * d := hd
        rw [show b / gc t b = (gc t b * d) / gc t b by rw [← e], Int.mul_ediv_cancel_left _ (by omega)]
      rw [this]; exact hd
    · unfold rB; rw [if_neg hb]
      exact Int.ediv_pos_of_pos_of_dvd (by omega) (by omega) ⟨d, hd⟩
theorem natAbs_div {a : Int} {g : Nat} (h : 0 < g) (d : (g : Int) ∣ a) : (a / (g : Int)).natAbs = a.natAbs / g := by
  obtain ⟨c, rfl⟩ := d
  rw [Int.mul_ediv_cancel_left _ (by omega), Int.natAbs_mul, Int.natAbs_natCast, Nat.mul_div_cancel_left _ h]
theorem rat_gcd {t b : Int} (h : b ≠ 0) : Nat.gcd (rT t b).natAbs (rB t b).natAbs = 1 := by
  have gp : 0 < Nat.gcd t.natAbs b.natAbs := Nat.gcd_pos_of_pos_right _ (by omega)
  have e1 : (rT t b).natAbs = t.natAbs / Nat.gcd t.natAbs b.natAbs := by
    unfold rT
    split
    · have := natAbs_div (a := -t) gp (Int.dvd_neg.mpr (gc_dvd1 t b))
      rw [Int.natAbs_neg] at this; exact this
    · exact natAbs_div gp (gc_dvd1 t b)
  have e2 : (rB t b).natAbs = b.natAbs / Nat.gcd t.natAbs b.natAbs := by
    unfold rB
    split
    · have := natAbs_div (a := -b) gp (Int.dvd_neg.mpr (gc_dvd2 t b))
      rw [Int.natAbs_neg] at this; exact this
    · exact natAbs_div gp (gc_dvd2 t b)
  rw [e1, e2]
  rw [Nat.gcd_div (Nat.gcd_dvd_left _ _) (Nat.gcd_dvd_right _ _)]
  exact Nat.div_self gp
theorem rat_bd {t b : Int} {n : Nat} (h : b ≠ 0) (ht : Bd n t) : Bd n (rT t b) := by
  obtain ⟨g, hg, e, _⟩ := rat_eqs (t := t) h
  have : t.natAbs = g.natAbs * (rT t b).natAbs := by rw [← Int.natAbs_mul, ← e]
  have hp : 1 ≤ g.natAbs := by omega
  have : (rT t b).natAbs ≤ t.natAbs := by
    rw [this]
    calc (rT t b).natAbs = 1 * (rT t b).natAbs := (Nat.one_mul _).symm
      _ ≤ _ := Nat.mul_le_mul_right _ hp
  unfold Bd at *
  omega
theorem rat_bdB {t b : Int} {n : Nat} (h : b ≠ 0) (ht : Bd n b) : Bd n (rB t b) := by
  obtain ⟨g, hg, _, e, _⟩ := rat_eqs (t := t) h
  have : b.natAbs = g.natAbs * (rB t b).natAbs := by rw [← Int.natAbs_mul, ← e]
  have hp : 1 ≤ g.natAbs := by omega
  have : (rB t b).natAbs ≤ b.natAbs := by
    rw [this]
    calc (rB t b).natAbs = 1 * (rB t b).natAbs := (Nat.one_mul _).symm
      _ ≤ _ := Nat.mul_le_mul_right _ hp
  unfold Bd at *
  omega
/-! ### Euclid's turns -/
def Eu (a k x y : Nat) : Prop := (k = 0 ∧ x < 2 ^ a ∧ y < 2 ^ a) ∨ (1 ≤ k ∧ k ≤ a + a + 1 ∧ y < x ∧ x * y * 2 ^ (k - 1) < 2 ^ (a + a))
theorem Eu.step {a k x y : Nat} (h : Eu a k x y) (hy : 0 < y) : Eu a (k + 1) y (x % y) := by
  have hm := Nat.mod_lt x hy
  rcases h with ⟨rfl, h1, h2⟩ | ⟨h1, h2, h3, h4⟩
  · refine .inr ⟨by omega, by omega, hm, ?_⟩
    rw [show (0 + 1 - 1 : Nat) = 0 from rfl, Nat.pow_zero, Nat.mul_one, Nat.pow_add]
    exact Nat.mul_lt_mul'' h2 (Nat.lt_of_le_of_lt (Nat.mod_le _ _) h1)
  · have hx : 1 ≤ x * y := Nat.mul_pos (by omega) hy
    have l1 : 2 ^ (k - 1) < 2 ^ (a + a) := Nat.lt_of_le_of_lt (by
      calc 2 ^ (k - 1) = 1 * 2 ^ (k - 1) := (Nat.one_mul _).symm
        _ ≤ x * y * 2 ^ (k - 1) := Nat.mul_le_mul_right _ hx) h4
    have l2 : k - 1 < a + a := (Nat.pow_lt_pow_iff_right (by decide)).mp l1
    refine .inr ⟨by omega, by omega, hm, ?_⟩
    have e : 2 ^ (k + 1 - 1) = 2 * 2 ^ (k - 1) := by
      rw [show k + 1 - 1 = (k - 1) + 1 by omega, Nat.pow_succ, Nat.mul_comm]
    have two : 2 * (x % y) ≤ x := by
      have e1 := Nat.div_add_mod x y
      have q : 1 ≤ x / y := (Nat.one_le_div_iff hy).mpr (by omega)
      have : y * 1 ≤ y * (x / y) := Nat.mul_le_mul_left _ q
      omega
    calc y * (x % y) * 2 ^ (k + 1 - 1) = y * (2 * (x % y)) * 2 ^ (k - 1) := by rw [e]; ac_rfl
      _ ≤ y * x * 2 ^ (k - 1) := Nat.mul_le_mul_right _ (Nat.mul_le_mul_left _ two)
      _ = x * y * 2 ^ (k - 1) := by rw [Nat.mul_comm y x]
      _ < _ := h4
theorem Eu.early {a k x y : Nat} (h : Eu a k x y) (hk : a + a + 1 < k) : False := by
  rcases h with ⟨rfl, _⟩ | ⟨_, h, _⟩ <;> omega

/-- lowest terms stay -/
theorem rat_low {t b : Int} (h : 0 < b) (g : Nat.gcd t.natAbs b.natAbs = 1) : rT t b = t ∧ rB t b = b := by
  have e : gc t b = 1 := by
    unfold gc
    rw [g]
    rfl
  unfold rT rB
  rw [if_neg (by omega), if_neg (by omega), e, Int.ediv_one, Int.ediv_one]
  exact ⟨rfl, rfl⟩
structure Lo (a : Nat) (t b : Int) : Prop where
  pos : 0 < b
  gcd : Nat.gcd t.natAbs b.natAbs = 1
  bt : Bd a t
  bb : Bd a b
theorem lo_rat {a : Nat} {t b : Int} (h0 : b ≠ 0) (ht : Bd a t) (hb : Bd a b) : Lo a (rT t b) (rB t b) := by
  obtain ⟨g, _, _, _, hp⟩ := rat_eqs (t := t) h0
  exact ⟨hp, rat_gcd h0, rat_bd h0 ht, rat_bdB h0 hb⟩
/-- the same number, both in lowest terms -/
theorem low_eq {t b x y : Int} (hb : 0 < b) (hy : 0 < y) (g : Nat.gcd t.natAbs b.natAbs = 1) (k : Nat.gcd x.natAbs y.natAbs = 1) (e : t * y = x * b) : t = x ∧ b = y := by
  have e' : t.natAbs * y.natAbs = x.natAbs * b.natAbs := by rw [← Int.natAbs_mul, ← Int.natAbs_mul, e]
  have d1 : b.natAbs ∣ y.natAbs := by
    have : b.natAbs ∣ t.natAbs * y.natAbs := ⟨x.natAbs, by rw [e', Nat.mul_comm]⟩
    exact (Nat.Coprime.symm g).dvd_of_dvd_mul_left this
  have d2 : y.natAbs ∣ b.natAbs := by
    have : y.natAbs ∣ x.natAbs * b.natAbs := ⟨t.natAbs, by rw [← e', Nat.mul_comm]⟩
    exact (Nat.Coprime.symm k).dvd_of_dvd_mul_left this
  have eb : b.natAbs = y.natAbs := Nat.dvd_antisymm d1 d2
  have ey : b = y := by omega
  subst ey
  exact ⟨Int.eq_of_mul_eq_mul_right (by omega) e, rfl⟩
theorem rat_scale {a b k : Int} (hb : b ≠ 0) (hk : k ≠ 0) : rT (a * k) (b * k) = rT a b ∧ rB (a * k) (b * k) = rB a b := by
  have hbk : b * k ≠ 0 := Int.mul_ne_zero hb hk
  obtain ⟨g, hg, e1, e2, p1⟩ := rat_eqs (t := a) hb
  obtain ⟨h, hh, e3, e4, p2⟩ := rat_eqs (t := a * k) hbk
  refine low_eq p2 p1 (rat_gcd hbk) (rat_gcd hb) ?_
  refine Int.eq_of_mul_eq_mul_left (Int.mul_ne_zero hh hg) ?_
  generalize rT (a * k) (b * k) = A at *
  generalize rB (a * k) (b * k) = B at *
  generalize rT a b = P at *
  generalize rB a b = Q at *
  subst e1 e2
  grind
theorem Bd.addS {a b : Nat} {x y : Int} (h : Bd a x) (k : Bd b y) : Bd (a + b + 1) (x + y) := (h.mono (Nat.le_add_right a b)).add (k.mono (Nat.le_add_left b a))
theorem Bd.subS {a b : Nat} {x y : Int} (h : Bd a x) (k : Bd b y) : Bd (a + b + 1) (x - y) := (h.mono (Nat.le_add_right a b)).sub (k.mono (Nat.le_add_left b a))
theorem Ws.cut {W : WX} {E : ET} {t : TS} {r : Rho} {m : Mu} {P : DEnds} (I : Rho → Mu → Prop) (h : Ws W E t r m { P with nx := I }) (k : ∀ r' m', I r' m' → P.nx r' m') : Ws W E t r m P := fun s H De e z g =>
  h s H De e z ⟨fun r' m' s' H' a b q => g.nx r' m' s' H' a b (k r' m' q), g.rt, g.bk, g.ct⟩
end DL
set_option Elab.async false
set_option linter.all false
set_option maxRecDepth 100000
/-! DL10: short words for methods and own operators. -/
namespace DL
open PySem PySem.Spec L2
open PyProof.Rows hiding St
section
variable {W : WX} {E : ET} {r : Rho} {m : Mu} {K : KT} {G : Gx} {t : TA} {j k n : Nat} {C : Addr} {ns : List Str} {ds : List D} {S : SpecD} {dd : List D} {mt : Str}
theorem mt_of (M : Met G k C ns mt n S dd) (cs : dd.all isC = true) (hk : k ≤ j) (h : Wa W E t r m fun es m2 => (D.ins C ns ds :: (es ++ dd)).length = n ∧ S (D.ins C ns ds :: (es ++ dd)) m2 K fun x m' => E x r m') :
    ∃ (k n : Nat) (C' : Addr) (ns' : List Str) (S : SpecD) (dd : List D), Met G k C' ns' mt n S dd ∧ dd.all isC = true ∧ k ≤ j ∧ InsD (D.ins C ns ds) m C' ns' ∧
    Wa W E t r m fun es m2 => (D.ins C ns ds :: (es ++ dd)).length = n ∧ S (D.ins C ns ds :: (es ++ dd)) m2 K fun x m' => E x r m' := ⟨k, n, C, ns, S, dd, M, cs, hk, .fixed, h⟩
theorem mt_of0 (M : Met G k C ns mt n S []) (hk : k ≤ j) (h : Wa W E t r m fun es m2 => es.length + 1 = n ∧ S (D.ins C ns ds :: es) m2 K fun x m' => E x r m') :
    ∃ (k n : Nat) (C' : Addr) (ns' : List Str) (S : SpecD) (dd : List D), Met G k C' ns' mt n S dd ∧ dd.all isC = true ∧ k ≤ j ∧ InsD (D.ins C ns ds) m C' ns' ∧
    Wa W E t r m fun es m2 => (D.ins C ns ds :: (es ++ dd)).length = n ∧ S (D.ins C ns ds :: (es ++ dd)) m2 K fun x m' => E x r m' :=
  mt_of M rfl hk (h.imp fun es m2 k => by
    rw [List.append_nil]
    exact k)
variable {d d' : D} {ns' : List Str} {ds' : List D}
theorem w1_negO (O : Opr G k C "__neg__" 1 S) (hk : k ≤ j) (i : FldD d m C ns ds) (h : S [d] m K fun x m' => E x r m') : W1 W E (oNeg G j W) d r m K := fun s H Q v e z rv g => .inr (w1_own O hk i h s H Q v e z rv g)
theorem w2_addO (O : Opr G k C "__add__" 2 S) (hk : k ≤ j) (i : FldD d m C ns ds) (i' : FldD d' m C ns' ds') (h : S [d, d'] m K fun x m' => E x r m') : W2 W E (oAdd G j W) d d' r m K := fun s H Q a b e z ra rb g => .inr (.inr (.inr (.inr (w2_own O hk i i' h s H Q a b e z ra rb g))))
theorem w2_subO (O : Opr G k C "__sub__" 2 S) (hk : k ≤ j) (i : FldD d m C ns ds) (i' : FldD d' m C ns' ds') (h : S [d, d'] m K fun x m' => E x r m') : W2 W E (oSub G j W) d d' r m K := fun s H Q a b e z ra rb g => .inr (w2_own O hk i i' h s H Q a b e z ra rb g)
theorem w2_mulO (O : Opr G k C "__mul__" 2 S) (hk : k ≤ j) (i : FldD d m C ns ds) (i' : FldD d' m C ns' ds') (h : S [d, d'] m K fun x m' => E x r m') : W2 W E (oMul G j W) d d' r m K := fun s H Q a b e z ra rb g => .inr (.inr (w2_own O hk i i' h s H Q a b e z ra rb g))
end
end DL
set_option Elab.async false
set_option linter.all false
set_option maxRecDepth 100000
/-! DL11: tests within an except suite; what isinstance and except answer of own classes. -/
namespace DL
open PySem PySem.Spec L2
open PyProof.Rows hiding St
theorem pt_trS {X : Cx} {a : Addr} {pn : List (Addr × Obj)} {e : Expr} {te : TE} (ha : PE (X.suite a pn) e te) (he : ∀ whole, isTrue e (X.suite a pn).env whole = (do let v ← whole; standAt e.pos; holding [v] (truthy v)) := by intro _; rfl) : PT (X.suite a pn) e (tTr X.K te) := pt_tr ha he
theorem pe_isE {X : Cx} {a : Addr} {cls : Value} {d : Option Addr} {oe : Obj} {pn : List (Addr × Obj)} {e : Expr} {es : List Expr} {t : TA} {p pos : Pos} (hz : L2N.Zn cls d oe) (hf : ∃ vs, oe.data = .fields vs) (hm : X.mg "isinstance" = none) (ha : PA (X.suite a ((a, oe) :: pn)) (e :: es) t)
    (hg : Gl (X.suite a ((a, oe) :: pn)) "isinstance" := by rfl)
    (he : starEach (e :: es) X.env = (false, eval e X.env) :: starEach es X.env := by rfl) (hpl : (backTo pos (starEach es X.env)).any (·.1) = false := by rfl) : PE (X.suite a ((a, oe) :: pn)) (.Call (.Name "isinstance" p) (e :: es) [] pos) (tC2 (cIsE X.K a cls d) t) :=
  pe_cb (cs_isE hz hf) hg hm (by decide +kernel) ha (by decide) (by decide) he hpl
section
variable {K : PySem.W.Frag} {S O : Addr}
theorem kit_self : PySem.W.kitOne K (.ref S) (.ref S) = some true := by
  unfold PySem.W.kitOne
  rw [if_pos]
  simp
theorem kit_no (hx : PySem.W.subIn K (.ref S) (.ref S) = some true) (h2 : PySem.W.isClsIn K O = true) (h3 : PySem.W.typeIn K (.ref O) = some (.type "type")) (h4 : PySem.W.subIn K (.ref S) (.ref O) = some false) : PySem.W.kitOne K (.ref S) (.ref O) = some false := by
  have ne : ¬ ((Value.ref S == Value.ref O) = true) := fun z => by
    have e : S = O := by simpa using z
    subst e
    rw [hx] at h4
    cases h4
  have e2 : ((PySem.W.clsIn K O).isSome && PySem.W.typeIn K (.ref O) == some (.type "type")) = true := by
    have h2' : (PySem.W.clsIn K O).isSome = true := h2
    rw [h2', h3] <;> rfl
  unfold PySem.W.kitOne
  rw [if_neg ne]
  show (if ((PySem.W.clsIn K O).isSome && PySem.W.typeIn K (.ref O) == some (.type "type")) = true then PySem.W.subIn K (.ref S) (.ref O) else none) = some false
  rw [if_pos e2]
  exact h4
theorem kit_val (h : PySem.W.subIn K (.ref S) (.type "ValueError") = some true) : PySem.W.kitOne K (.ref S) (.type "ValueError") = some true := h
end
end DL
set_option Elab.async false
set_option linter.all false
set_option maxRecDepth 100000
/-! DL12: in, by an own __contains__. -/
namespace DL
open PySem PySem.Spec L2
open PyProof.Rows hiding St
section
variable {X : Cx} {W : WX} {E : ET} {r : Rho} {m : Mu} {K : KT} {G : Gx} {j k : Nat} {C : Addr} {ns : List Str} {ds : List D} {S : SpecD} {d d' : D}
def oInO (G : Gx) (j : Nat) (W : WX) : O2 := fun x y σ H Q => ∃ (a C dx : Addr) (fs : List (Str × V)) (k : Nat) (S : SpecD), y = .ref a ∧ H a = some (.ins C dx fs) ∧ k ≤ j ∧ Opr G k C "__contains__" 2 S ∧ spD 2 S [y, x] H (fun v H' => ∃ b, v = .bl b ∧ Q (.bl b) H') (WE W σ)
theorem os_inO (hr : Room j X.A) (tk : L2N.Takes X W) : OpS X (compareOp .In) (oInO (Gx.of X) j W) := by
  intro pins s σ H x y u v Q I rx ry h
  obtain ⟨a, C, dx, fs, k, S, rfl, ha, hk, O, q⟩ := h
  obtain rfl : v = Value.ref a := ry
  obtain ⟨f, ⟨⟨fd, ps, ds, F, bd, d⟩, cs⟩, h1, h2⟩ := O.ex
  obtain ⟨od, J⟩ := inst_of I ha
  obtain ⟨m, fr⟩ := I.fr
  refine PySem.W.in_K fr I.ok.mod.kin J h1 h2 ?_
  refine wpAny_mono (run_fnSD (E := WE W) (us := [.ref a, u]) (vs := [.ref a, x]) F (hr.mono hk) bd d (L2N.passAt tk σ) I (.cons rfl (.cons rx .nil)) q) (fun w s' hq => ?_) fun _ _ z => z
  obtain ⟨v', H1, I1, r1, b, rfl, q1⟩ := hq
  cases r1
  exact wpAny_truthy_bool ⟨.bl b, H1, I1, rfl, q1⟩
theorem w2_inO {d d' : D} (O : Opr G k C "__contains__" 2 S) (hk : k ≤ j) (i : FldD d' m C ns ds) (h : S [d', d] m (fun x m' => ∃ b, x = .bl b ∧ K (.bl b) m') fun x m' => E x r m') : W2 W E (oInO G j W) d d' r m K := fun s H Q a b e z ra rb g => by
  obtain ⟨p, dx, gs, rfl, hp, _⟩ := i.look e.mu rb
  refine ⟨p, C, dx, gs, k, S, rfl, hp, hk, O, spD_of rfl e z (fun d m' v H' s1 mu1 r1 q => ?_) (.cons rb (.cons ra .nil)) h fun _ _ q => q⟩
  obtain ⟨b, rfl, q⟩ := q
  cases r1
  exact ⟨b, rfl, g _ m' _ H' s1 mu1 (.bl b) q⟩
end
end DL
namespace DL
open PySem PySem.Spec L2
open PyProof.Rows hiding St
/-! ==, by an own __eq__ (both of the class) -/
section
variable {X : Cx} {W : WX} {E : ET} {r : Rho} {m : Mu} {K : KT} {G : Gx} {j k : Nat} {C : Addr} {ns ns' : List Str} {ds ds' : List D} {S : SpecD} {d d' : D}
structure OprEq (G : Gx) (k : Nat) (C : Addr) (S : SpecD) : Prop where
  o : Opr G k C "__eq__" 2 S
  nf : PySem.W.notFirst G.K C (.ref C) = true
def oEqO (G : Gx) (j : Nat) (W : WX) : O2 := fun x y σ H Q => ∃ (a b C dx dy : Addr) (fs gs : List (Str × V)) (k : Nat) (S : SpecD), x = .ref a ∧ y = .ref b ∧ H a = some (.ins C dx fs) ∧ H b = some (.ins C dy gs) ∧ k ≤ j ∧ OprEq G k C S ∧ spD 2 S [x, y] H Q (WE W σ)
theorem os_eqO (hr : Room j X.A) (tk : L2N.Takes X W) : OpS X (compareOp .Eq) (oEqO (Gx.of X) j W) := by
  intro pins s σ H x y u v Q I rx ry h
  obtain ⟨a, b, C, dx, dy, fs, gs, k, S, rfl, rfl, ha, hb, hk, O, q⟩ := h
  obtain rfl : u = Value.ref a := rx
  obtain rfl : v = Value.ref b := ry
  obtain ⟨f, ⟨⟨fd, ps, ds, F, bd, d⟩, cs⟩, h1, h2⟩ := O.o.ex
  obtain ⟨od, J⟩ := inst_of I ha
  obtain ⟨od', J'⟩ := inst_of I hb
  obtain ⟨m, fr⟩ := I.fr
  show wpAny (model X.prog X.w) X.A (richCompare .Eq (.ref a) (.ref b)) (EP X pins σ Q) X.xe s
  refine PySem.W.cmp_K (Nat.lt_of_succ_lt (hu_of hr)) fr I.ok.mod.kin J J'.type O.nf h1 h2 ?_
  exact wpAny_mono (run_fnSD (E := WE W) (us := [.ref a, .ref b]) (vs := [.ref a, .ref b]) F (hr.mono hk) bd d (L2N.passAt tk σ) I (.cons rfl (.cons rfl .nil)) q) (fun r s' hq => back_of hq) fun _ _ z => z
theorem w2_eqO (O : OprEq G k C S) (hk : k ≤ j) (i : FldD d m C ns ds) (i' : FldD d' m C ns' ds') (h : S [d, d'] m K fun x m' => E x r m') : W2 W E (oEqO G j W) d d' r m K := fun s H Q a b e z ra rb g => by
  obtain ⟨p, dx, gs, rfl, hp, _⟩ := i.look e.mu ra
  obtain ⟨p', dx', gs', rfl, hp', _⟩ := i'.look e.mu rb
  exact ⟨p, p', C, dx, dx', gs, gs', k, S, rfl, rfl, hp, hp', hk, O, spD_of rfl e z g (.cons ra (.cons rb .nil)) h fun _ _ q => q⟩
end
end DL
namespace DL
open PySem PySem.Spec L2
open PyProof.Rows hiding St
theorem pe_fldK {X : Cx} {KK : PySem.W.Frag} {e : Expr} {ta : TE} {f : Str} {pos : Pos} (hk : X.K = KK) (he : PE X e ta) (hb : attributeBase e f X.env (eval e X.env) = eval e X.env) : PE X (.Attribute e f pos) (tFld KK ta f) := by
  subst hk
  exact pe_fld he hb
section
variable {X : Cx} {W : WX} {mt : Str} {j : Nat} {e o : Expr} {es : List Expr} {t : TA} {to : TE} {pos apos : Pos}
theorem pe_mthG {pl : Sem Bool} (G : Gx) (hG : Gx.of X = G) (hr : Room j X.A) (tk : L2N.Takes X W) (he : PE X o to) (ha : PA X (e :: es) t)
    (hst : starEach (e :: es) X.env = (false, eval e X.env) :: starEach es X.env := by rfl) (hpl : (backTo pos (starEach es X.env)).any (·.1) = false := by rfl)
    (ht : eval (.Call (.Attribute o mt apos) (e :: es) [] pos) X.env = (do
      let ov ← eval o X.env
      standAt apos.atName
      let (f, first) ← holding [ov] (getMethod ov mt pl)
      callWith pos f first (backTo pos (starEach (e :: es) X.env)) (backToKw pos (keywordEach [] X.env))) := by rfl) :
    PE X (.Call (.Attribute o mt apos) (e :: es) [] pos) (tMt G j W mt to t) := by
  subst hG
  exact pe_mth hr tk he ha hst hpl ht
theorem pe_mth0G {pl : Sem Bool} (G : Gx) (hG : Gx.of X = G) (hr : Room j X.A) (tk : L2N.Takes X W) (he : PE X o to)
    (ht : eval (.Call (.Attribute o mt apos) [] [] pos) X.env = (do
      let ov ← eval o X.env
      standAt apos.atName
      let (f, first) ← holding [ov] (getMethod ov mt pl)
      callWith pos f first (backTo pos (starEach [] X.env)) (backToKw pos (keywordEach [] X.env))) := by rfl) :
    PE X (.Call (.Attribute o mt apos) [] [] pos) (tMt G j W mt to tNil) := by
  subst hG
  exact pe_mth0 hr tk he ht
end
end DL
set_option Elab.async false
set_option linter.all false
set_option maxRecDepth 100000
/-! DL13: == and != of all kinds: plain data, an own __eq__ on either side. -/
namespace PySem.SeqAt
open AutoSeq1 (wpAny_loadPart')
open MeetsSeq PySem.W
section
variable {prog : Program} {w : World} {A : Around} {E : Value → Shared → Prop} {s : Shared} {K : Frag} {x C : Addr} {ox : Obj} {od : Option Obj}
theorem isInst_own {M : Model} {T : String} {Q : Bool → Shared → Prop} (X : K.In s.heap) (I : PySem.W.InstAt s.heap x ox C od) (h : subIn K (.ref C) (.type T) = some false) (q : Q false s) : wpAny M A (isInstance (.ref x) (.type T)) Q E s := by
  unfold isInstance
  exact wpAny_bind (I.type.here ((looks_subIn X h).here q))
theorem list_eq_own (l : Addr) (items : Array Value) (n : Nat) (dd : Option Addr) (sl : Array (Option Value)) (hs : subIn K (.ref C) (.type "list") = some false) :
    Meets (Builtin.«list.__eq__» ⟨[.ref l, .ref x], []⟩) (fun _ R s => s.heap.get? l = some { cls := .type "list", dict := dd, data := .seq items n, slots := sl } ∧ K.In s.heap ∧ PySem.W.InstAt s.heap x ox C od ∧ R (.ok (.ret .notImplemented)) s) :=
  .of_wp fun prog w A R s h => by
    obtain ⟨hl, X, I, h⟩ := h
    have f1 : ∀ {M : Model} {A : Around} {E : Value → Shared → Prop} {Q : Bool → Shared → Prop}, Q false s → wpAny M A (isInstance (.ref x) (.type "list")) Q E s := fun q => isInst_own X I hs q
    obtain ⟨hp, g, d, tk, os⟩ := s
    wp_walk using wpAny_loadPart' hl, f1
    exact ⟨_, rfl, h⟩
theorem tuple_eq_own (l : Addr) (items : Array Value) (n : Nat) (dd : Option Addr) (sl : Array (Option Value)) (hs : subIn K (.ref C) (.type "tuple") = some false) :
    Meets (Builtin.«tuple.__eq__» ⟨[.ref l, .ref x], []⟩) (fun _ R s => s.heap.get? l = some { cls := .type "tuple", dict := dd, data := .seq items n, slots := sl } ∧ K.In s.heap ∧ PySem.W.InstAt s.heap x ox C od ∧ R (.ok (.ret .notImplemented)) s) :=
  .of_wp fun prog w A R s h => by
    obtain ⟨hl, X, I, h⟩ := h
    have f1 : ∀ {M : Model} {A : Around} {E : Value → Shared → Prop} {Q : Bool → Shared → Prop}, Q false s → wpAny M A (isInstance (.ref x) (.type "tuple")) Q E s := fun q => isInst_own X I hs q
    obtain ⟨hp, g, d, tk, os⟩ := s
    wp_walk using wpAny_loadPart' hl, f1
    exact ⟨_, rfl, h⟩
theorem int_eq_own (b : Int) (u : Tok) (dx : Addr) :
    Meets (Builtin.«int.__eq__» ⟨[.int b u, .ref x], []⟩) (fun _ R s => s.heap.get? x = some (instObj C dx) ∧ R (.ok (.ret .notImplemented)) s) :=
  .of_wp fun prog w A R s h => by
    obtain ⟨hp, g, d, tk, os⟩ := s
    obtain ⟨hl, h⟩ := h
    wp_walk using wpAny_loadPart' hl, wpAny_load hl
    exact ⟨_, rfl, h⟩
theorem str_eq_own (b : Str) (u : Tok) (dx : Addr) :
    Meets (Builtin.«str.__eq__» ⟨[.str b u, .ref x], []⟩) (fun _ R s => s.heap.get? x = some (instObj C dx) ∧ R (.ok (.ret .notImplemented)) s) :=
  .of_wp fun prog w A R s h => by
    obtain ⟨hp, g, d, tk, os⟩ := s
    obtain ⟨hl, h⟩ := h
    wp_walk using wpAny_loadPart' hl, wpAny_load hl
    exact ⟨_, rfl, h⟩
end
end PySem.SeqAt
namespace PySem.W
open PySem.SeqAt MeetsSeq
section
variable {prog : Program} {w : World} {A : Around} {E : Value → Shared → Prop} {s : Shared} {K : Frag} {x C f : Addr} {ox : Obj} {od : Option Obj} {a : Value} {T id : String}
/-- a builtin's value == an own instance: the value's own == declines, the instance's is asked -/
theorem cmp_refl {Q : Value → Shared → Prop} (hu : A.units < cLine) (X : K.In s.heap) (I : InstAt s.heap x ox C od) (ha : s.TypeIs a T) (hsub : subIn K (.ref C) (.type T) = some false)
    (h1 : Slot T (cmpInfo .Eq).2.1 id) (hc : ∀ Q' : Value → Shared → Prop, Q' .notImplemented s → wpAny (model prog w) A (call (.builtin id) [a, .ref x]) Q' E s)
    (hs : findIn K (.ref C) "__eq__" = some (some (.ref f))) (hf : isFn K (.ref f) = true)
    (h : wpAny (model prog w) A (call (.ref f) [.ref x, a]) (CmpBack Q) E s) : wpAny (model prog w) A (richCompare .Eq a (.ref x)) Q E s := by
  have one : wpAny (model prog w) A (tryCompare (.ref x) "__eq__" a) (fun r s' => ∃ v, r = some v ∧ Q v s') E s := by
    unfold tryCompare
    refine wpAny_bind (ifBound_K X I hs hf (wpAny_mono h (fun v s' hv => ?_) fun _ _ e => e))
    cases v <;> first | exact hv.elim | exact wpAny_pure ⟨_, rfl, hv⟩
  rcases hi : cmpInfo CmpOp.Eq with ⟨sym, ff, r⟩
  rw [hi] at h1
  have er : r = "__eq__" := by
    have : (cmpInfo CmpOp.Eq).2.2 = "__eq__" := rfl
    rw [hi] at this
    exact this
  subst er
  simp only [richCompare, hi, ha.oneThing_none]
  refine wpAny_holding ?_
  refine wpAny_bind (wpAny_cRoomFor hu ?_)
  refine wpAny_bind (wpAny_typeOf ha (wpAny_bind (I.type.here ?_)))
  have ne : (Value.type T != Value.ref C) = true := rfl
  simp only [ne, if_true]
  refine wpAny_bind ((looks_subIn X hsub).here ?_)
  simp only [Bool.false_eq_true, if_false, Bool.not_false, if_true]
  refine wpAny_bind (m := tryCompare a _ _) (wpAny_tryCompare_declines ha h1 (hc _ ⟨rfl, ?_⟩))
  refine wpAny_bind (m := tryCompare (.ref x) _ a) (wpAny_mono one (fun r s' z => ?_) fun _ _ e => e)
  obtain ⟨v, rfl, hq⟩ := z
  exact wpAny_pure hq
end
end PySem.W
namespace DL
open PySem PySem.Spec L2
open PyProof.Rows hiding St
/-! ### == and !=: all kinds -/
mutual
/-- a plain datum -/
inductive PD : D → PyData → Prop
  | non : PD .non .none
  | bl (b : Bool) : PD (.bl b) (.bool b)
  | int (i : Int) : PD (.int i) (.int i)
  | str (x : Str) : PD (.str x) (.str x)
  | tup {xs : List D} {ps : List PyData} (h : PDs xs ps) : PD (.tup xs) (.tuple ps)
  | lst {xs : List D} {ps : List PyData} (h : PDs xs ps) : PD (.lst xs) (.list ps)
inductive PDs : List D → List PyData → Prop
  | nil : PDs [] []
  | cons {x : D} {p : PyData} {xs : List D} {ps : List PyData} (h : PD x p) (t : PDs xs ps) : PDs (x :: xs) (p :: ps)
end
mutual
theorem PD.dp {K : PySem.W.Frag} {M : Addr → Prop} {H : Hp} : ∀ {d : D} {p : PyData} {v : V}, PD d p → Rep M H d v → Dp K H v p
  | _, _, _, .non, .non => .non
  | _, _, _, .bl b, .bl _ => .bl b
  | _, _, _, .int i, .int _ => .int i
  | _, _, _, .str x, .str _ => .str x
  | _, _, _, .tup h, .tup m hh r => .tup (rd_t hh) (PDs.dp h r)
  | _, _, _, .lst h, .lst m hh r => .lst (rd_l hh) (PDs.dp h r)
theorem PDs.dp {K : PySem.W.Frag} {M : Addr → Prop} {H : Hp} : ∀ {d : List D} {p : List PyData} {v : List V}, PDs d p → Reps M H d v → DpAll K H v p
  | _, _, _, .nil, .nil => .nil
  | _, _, _, .cons h t, .cons r q => .cons (PD.dp h r) (PDs.dp t q)
end
section
variable {X : Cx} {W : WX} {j : Nat}
/-- an own instance with an own __eq__ on the left -/
def oOwnL (G : Gx) (j : Nat) (W : WX) : O2 := fun x y σ H Q => ∃ (a C dx : Addr) (fs : List (Str × V)) (k : Nat) (S : SpecD) (t : Value), x = .ref a ∧ H a = some (.ins C dx fs) ∧ TyX G.K H y t ∧ PySem.W.notFirst G.K C t = true ∧ k ≤ j ∧ Opr G k C "__eq__" 2 S ∧ spD 2 S [x, y] H Q (WE W σ)
theorem os_ownL (hr : Room j X.A) (tk : L2N.Takes X W) : OpS X (compareOp .Eq) (oOwnL (Gx.of X) j W) := by
  intro pins s σ H x y u v Q I rx ry h
  obtain ⟨a, C, dx, fs, k, S, t, rfl, ha, ty, nf, hk, O, q⟩ := h
  obtain rfl : u = Value.ref a := rx
  obtain ⟨f, ⟨⟨fd, ps, ds, F, bd, d⟩, cs⟩, h1, h2⟩ := O.ex
  obtain ⟨od, J⟩ := inst_of I ha
  obtain ⟨P, Z, hp, _⟩ := kit_of I ry ty
  obtain ⟨m, fr⟩ := I.fr
  show wpAny (model X.prog X.w) X.A (richCompare .Eq (.ref a) v) (EP X pins σ Q) X.xe s
  refine PySem.W.cmp_K (Nat.lt_of_succ_lt (hu_of hr)) fr I.ok.mod.kin J (Z.ty _ _ I.kIn hp) nf h1 h2 ?_
  exact wpAny_mono (run_fnSD (E := WE W) (us := [.ref a, v]) (vs := [.ref a, y]) F (hr.mono hk) bd d (L2N.passAt tk σ) I (.cons rfl (.cons ry .nil)) q) (fun r s' hq => back_of hq) fun _ _ z => z
/-- a builtin's value, by its type -/
inductive BkV (K : PySem.W.Frag) (H : Hp) : V → String → Prop
  | non : BkV K H .non "NoneType"
  | int (i : Int) : BkV K H (.int i) "int"
  | str (x : Str) : BkV K H (.str x) "str"
  | lst {a : Addr} {xs : List V} (h : SqL K H a xs) : BkV K H (.ref a) "list"
  | tup {a : Addr} {xs : List V} (h : SqT K H a xs) : BkV K H (.ref a) "tuple"
/-- .. on the right -/
def oOwnR (G : Gx) (j : Nat) (W : WX) : O2 := fun x y σ H Q => ∃ (a C dx : Addr) (fs : List (Str × V)) (k : Nat) (S : SpecD) (T : String), y = .ref a ∧ H a = some (.ins C dx fs) ∧ BkV G.K H x T ∧ PySem.W.subIn G.K (.ref C) (.type T) = some false ∧ k ≤ j ∧ Opr G k C "__eq__" 2 S ∧ spD 2 S [y, x] H Q (WE W σ)
theorem os_ownR (hr : Room j X.A) (tk : L2N.Takes X W) : OpS X (compareOp .Eq) (oOwnR (Gx.of X) j W) := by
  intro pins s σ H x y u v Q I rx ry h
  obtain ⟨a, C, dx, fs, k, S, T, rfl, ha, bk, sb, hk, O, q⟩ := h
  obtain rfl : v = Value.ref a := ry
  obtain ⟨f, ⟨⟨fd, ps, ds, F, bd, d⟩, cs⟩, h1, h2⟩ := O.ex
  obtain ⟨od, J⟩ := inst_of I ha
  have hu := Nat.lt_of_succ_lt (hu_of hr)
  have run : wpAny (model X.prog X.w) X.A (call (.ref f) [.ref a, u]) (PySem.W.CmpBack (EP X pins σ Q)) X.xe s :=
    wpAny_mono (run_fnSD (E := WE W) (us := [.ref a, u]) (vs := [.ref a, x]) F (hr.mono hk) bd d (L2N.passAt tk σ) I (.cons rfl (.cons rx .nil)) q) (fun r s' hq => back_of hq) fun _ _ z => z
  show wpAny (model X.prog X.w) X.A (richCompare .Eq u (.ref a)) (EP X pins σ Q) X.xe s
  cases bk with
  | non =>
    cases (show u = Value.none from rx)
    exact PySem.W.cmp_refl hu I.kIn J rfl sb PySem.F.slot_NoneType_eq (fun _ hq => call_gives PySem.F.slot_NoneType_eq rfl PySem.F.entry_NoneType_eq (PySem.F.args_NoneType_eq_2 _ _) (PySem.SeqAt.NoneType___eq___none_ref_0 a) hq) h1 h2 run
  | int i =>
    obtain ⟨t, e⟩ := (show ∃ t, u = Value.int i t from rx)
    cases e
    exact PySem.W.cmp_refl hu I.kIn J (typeIs_int s i t) sb PySem.F.slot_int_eq (fun _ hq => call_meets PySem.F.slot_int_eq (typeIs_int s i t) PySem.F.entry_int_eq (PySem.F.args_int_eq_2 _ _) (PySem.SeqAt.int_eq_own i t dx) ⟨J.at_, hq⟩) h1 h2 run
  | str i =>
    obtain ⟨t, e⟩ := (show ∃ t, u = Value.str i t from rx)
    cases e
    exact PySem.W.cmp_refl hu I.kIn J (typeIs_str s i t) sb PySem.F.slot_str_eq (fun _ hq => call_meets PySem.F.slot_str_eq (typeIs_str s i t) PySem.F.entry_str_eq (PySem.F.args_str_eq_2 _ _) (PySem.SeqAt.str_eq_own i t dx) ⟨J.at_, hq⟩) h1 h2 run
  | @lst l xs hh =>
    cases (show u = Value.ref l from rx)
    obtain ⟨its, rv, p, hz⟩ := I.list hh
    obtain ⟨⟨cls, dd, data, sl⟩, ho, hc, n, hd⟩ := id p.isList
    simp only at hc hd
    subst hc hd
    exact PySem.W.cmp_refl hu I.kIn J ⟨_, ho, rfl⟩ sb PySem.F.slot_list_eq (fun _ hq => call_meets PySem.F.slot_list_eq ⟨_, ho, rfl⟩ PySem.F.entry_list_eq (PySem.F.args_list_eq_2 _ _) (PySem.SeqAt.list_eq_own l _ n dd sl sb) ⟨ho, I.kIn, J, hq⟩) h1 h2 run
  | @tup l xs hh =>
    cases (show u = Value.ref l from rx)
    obtain ⟨its, rv, p, hz⟩ := I.tuple hh
    obtain ⟨⟨cls, dd, data, sl⟩, ho, hc, n, hd⟩ := id (show s.heap.IsTuple l its.toArray from p)
    simp only at hc hd
    subst hc hd
    exact PySem.W.cmp_refl hu I.kIn J ⟨_, ho, rfl⟩ sb PySem.F.slot_tuple_eq (fun _ hq => call_meets PySem.F.slot_tuple_eq ⟨_, ho, rfl⟩ PySem.F.entry_tuple_eq (PySem.F.args_tuple_eq_2 _ _) (PySem.SeqAt.tuple_eq_own l _ n dd sl sb) ⟨ho, I.kIn, J, hq⟩) h1 h2 run
def oEqF (G : Gx) (j : Nat) (W : WX) : O2 := fun x y s H Q => rEq x y H Q ∨ (rEqD G.K x y H Q ∨ (oOwnL G j W x y s H Q ∨ oOwnR G j W x y s H Q))
def oNeF (G : Gx) (j : Nat) (W : WX) : O2 := fun x y s H Q => rNe x y H Q ∨ rNeD G.K x y H Q
theorem os_eqF (hr : Room j X.A) (tk : L2N.Takes X W) : OpS X (compareOp .Eq) (oEqF (Gx.of X) j W) := (OpS.of op_eq).or ((OpS.of (op_eqD hr.units)).or ((os_ownL hr tk).or (os_ownR hr tk)))
theorem os_neF (hr : Room j X.A) (tk : L2N.Takes X W) : OpS X (compareOp .NotEq) (oNeF (Gx.of X) j W) := (OpS.of op_ne).or (OpS.of (op_neD hr.units))
end
/-! ### what they do to trees -/
section
variable {W : WX} {E : ET} {r : Rho} {m : Mu} {K : KT} {G : Gx} {j k : Nat} {C : Addr} {ns : List Str} {ds : List D} {S : SpecD} {d d' : D}
theorem w2_eqFI {i k : Int} (h : K (.bl (decide (i = k))) m) : W2 W E (oEqF G j W) (.int i) (.int k) r m K := w2_val (fun _ _ _ => rint) (fun _ _ _ => rint) (fun _ _ => .bl _) (fun _ _ _ q => .inl ⟨rfl, by rw [dec_int, ← Bool.beq_eq_decide_eq] at *; exact q⟩) h
theorem w2_neFI {i k : Int} (h : K (.bl (!decide (i = k))) m) : W2 W E (oNeF G j W) (.int i) (.int k) r m K := w2_val (fun _ _ _ => rint) (fun _ _ _ => rint) (fun _ _ => .bl _) (fun _ _ _ q => .inl ⟨rfl, by rw [dec_int, ← Bool.beq_eq_decide_eq] at *; exact q⟩) h
theorem w2_eqFD {p q : PyData} (h1 : PD d p) (h2 : PD d' q) (s1 : SeqAt.shaped p = true) (s2 : SeqAt.shaped q = true) (h : K (.bl (PyData.eqv p q)) m) : W2 W E (oEqF G j W) d d' r m K := fun s H Q a b e z ra rb g =>
  .inr (.inl ⟨p, q, h1.dp ra, h2.dp rb, s1, s2, g _ m _ H (Stp.refl _ _) e.mu (.bl _) h⟩)
theorem w2_neFD {p q : PyData} (h1 : PD d p) (h2 : PD d' q) (s1 : SeqAt.shaped p = true) (s2 : SeqAt.shaped q = true) (h : K (.bl (!PyData.eqv p q)) m) : W2 W E (oNeF G j W) d d' r m K := fun s H Q a b e z ra rb g =>
  .inr ⟨p, q, h1.dp ra, h2.dp rb, s1, s2, g _ m _ H (Stp.refl _ _) e.mu (.bl _) h⟩
theorem w2_eqFs {p : PyData} (h1 : PD d p) (s1 : SeqAt.shaped p = true) (h : K (.bl true) m) : W2 W E (oEqF G j W) d d r m K := w2_eqFD h1 h1 s1 s1 (by rw [PySem.SeqAt.eqv_refl p (SeqAt.canLay_of_shaped s1)]; exact h)
theorem w2_neFs {p : PyData} (h1 : PD d p) (s1 : SeqAt.shaped p = true) (h : K (.bl false) m) : W2 W E (oNeF G j W) d d r m K := w2_neFD h1 h1 s1 s1 (by rw [PySem.SeqAt.eqv_refl p (SeqAt.canLay_of_shaped s1)]; exact h)
/-- the instance on the left -/
theorem w2_eqFL {t : Value} (O : Opr G k C "__eq__" 2 S) (hk : k ≤ j) (i : FldD d m C ns ds) (ty : TyD G d' m t) (nf : PySem.W.notFirst G.K C t = true) (h : S [d, d'] m K fun x m' => E x r m') : W2 W E (oEqF G j W) d d' r m K := fun s H Q a b e z ra rb g => by
  obtain ⟨p, dx, gs, rfl, hp, _⟩ := i.look e.mu ra
  exact .inr (.inr (.inl ⟨p, C, dx, gs, k, S, t, rfl, hp, ty.ok rb, nf, hk, O, spD_of rfl e z g (.cons ra (.cons rb .nil)) h fun _ _ q => q⟩))
inductive BkD : D → String → Prop
  | non : BkD .non "NoneType"
  | int (i : Int) : BkD (.int i) "int"
  | str (x : Str) : BkD (.str x) "str"
  | lst (xs : List D) : BkD (.lst xs) "list"
  | tup (xs : List D) : BkD (.tup xs) "tuple"
theorem BkD.ok {KF : PySem.W.Frag} {M : Addr → Prop} {H : Hp} {T : String} {v : V} (b : BkD d T) (rp : Rep M H d v) : BkV KF H v T := by
  cases b with
  | non => cases rp; exact .non
  | int i => cases rp; exact .int i
  | str i => cases rp; exact .str i
  | lst xs =>
    cases rp with
    | lst mm hh rs => exact .lst (rd_l hh)
  | tup xs =>
    cases rp with
    | tup mm hh rs => exact .tup (rd_t hh)
/-- .. on the right of a builtin's value -/
theorem w2_eqFR {T : String} (O : Opr G k C "__eq__" 2 S) (hk : k ≤ j) (i : FldD d' m C ns ds) (b : BkD d T) (sb : PySem.W.subIn G.K (.ref C) (.type T) = some false) (h : S [d', d] m K fun x m' => E x r m') : W2 W E (oEqF G j W) d d' r m K := fun s H Q a b' e z ra rb g => by
  obtain ⟨p, dx, gs, rfl, hp, _⟩ := i.look e.mu rb
  exact .inr (.inr (.inr ⟨p, C, dx, gs, k, S, T, rfl, hp, b.ok ra, sb, hk, O, spD_of rfl e z g (.cons rb (.cons ra .nil)) h fun _ _ q => q⟩))
end
/-! ### all of a list of bools; str of a number -/
section
variable {X : Cx} {W : WX} {E : ET} {r : Rho} {m : Mu} {K : KT} {G : Gx}
def cAll (G : Gx) : OC := fun xs _ H Q => rAll G.K xs H Q
theorem cs_all (hc : X.calm = true) : CallS X (.builtin "all") (cAll (Gx.of X)) := CallS.of (cr_all hc)
def cAny (G : Gx) : OC := fun xs _ H Q => rAny G.K xs H Q
theorem cs_any (hc : X.calm = true) : CallS X (.builtin "any") (cAny (Gx.of X)) := CallS.of (cr_any hc)
theorem rep_bls {M : Addr → Prop} {H : Hp} : ∀ {bs : List Bool} {vs : List V}, Reps M H (bs.map D.bl) vs → vs = bs.map V.bl
  | [], _, .nil => rfl
  | b :: bs, _, .cons (.bl _) t => by rw [rep_bls t]; rfl
theorem wc_all {ds : List D} {bs : List Bool} (e : ds = bs.map D.bl) (h : K (.bl (bs.all id)) m) : Wc W E (cAll G) [.lst ds] r m K := fun s H Q vs e0 z rs g => by
  subst e
  cases rs with
  | cons a tt =>
    cases tt
    cases a with
    | @lst a _ vs mm hh rr =>
      have e1 := rep_bls rr
      subst e1
      exact ⟨a, bs, rfl, rd_l hh, g _ m _ H (Stp.refl _ _) e0.mu (.bl _) h⟩
theorem wc_any {ds : List D} {bs : List Bool} (e : ds = bs.map D.bl) (h : K (.bl (bs.any id)) m) : Wc W E (cAny G) [.lst ds] r m K := fun s H Q vs e0 z rs g => by
  subst e
  cases rs with
  | cons a tt =>
    cases tt
    cases a with
    | @lst a _ vs mm hh rr =>
      have e1 := rep_bls rr
      subst e1
      exact ⟨a, bs, rfl, rd_l hh, g _ m _ H (Stp.refl _ _) e0.mu (.bl _) h⟩
def cStrI : OC := fun xs _ H Q => ∃ i, xs = [.int i] ∧ i.natAbs.log2 < 1920 ∧ Q (.str (toString i)) H
theorem cs_strI : CallS X (.type "str") cStrI := CallS.of call_str_int
theorem wc_strI {i : Int} (hb : i.natAbs.log2 < 1920) (h : K (.str (toString i)) m) : Wc W E cStrI [.int i] r m K := fun s H Q vs e z rs g => by
  cases rs with
  | cons a tt =>
    cases tt
    cases a
    exact ⟨i, rfl, hb, g _ m _ H (Stp.refl _ _) e.mu (.str _) h⟩
end
/-! ### an own == against the builtin kinds -/
def kinds5 : List String := ["NoneType", "int", "str", "list", "tuple"]
structure KindsC (G : Gx) (C : Addr) : Prop where
  kt : ∀ T ∈ kinds5, PySem.W.kitOne G.K (.type T) (.ref C) = some false
  sb : ∀ T ∈ kinds5, PySem.W.subIn G.K (.ref C) (.type T) = some false
  nf : ∀ T ∈ kinds5, PySem.W.notFirst G.K C (.type T) = true
theorem BkD.ty {G : Gx} {m : Mu} {d : D} {T : String} (b : BkD d T) : TyD G d m (.type T) := by
  cases b <;> constructor
theorem BkD.mem {d : D} {T : String} (b : BkD d T) : T ∈ kinds5 := by
  cases b <;> simp [kinds5]
theorem nf_self {K : PySem.W.Frag} {C : Addr} : PySem.W.notFirst K C (.ref C) = true := by simp [PySem.W.notFirst]
theorem kit_noT {K : PySem.W.Frag} {O : Addr} {T : String} (h2 : PySem.W.isClsIn K O = true) (h3 : PySem.W.typeIn K (.ref O) = some (.type "type")) (h4 : PySem.W.subIn K (.type T) (.ref O) = some false) : PySem.W.kitOne K (.type T) (.ref O) = some false := by
  have ne : ¬ ((Value.type T == Value.ref O) = true) := fun z => by simp at z
  have e2 : ((PySem.W.clsIn K O).isSome && PySem.W.typeIn K (.ref O) == some (.type "type")) = true := by
    have h2' : (PySem.W.clsIn K O).isSome = true := h2
    rw [h2', h3] <;> rfl
  unfold PySem.W.kitOne
  rw [if_neg ne]
  show (if ((PySem.W.clsIn K O).isSome && PySem.W.typeIn K (.ref O) == some (.type "type")) = true then PySem.W.subIn K (.type T) (.ref O) else none) = some false
  rw [if_pos e2]
  exact h4
theorem nf_of {K : PySem.W.Frag} {A B : Addr} (h : PySem.W.subIn K (.ref B) (.ref A) = some false) : PySem.W.notFirst K A (.ref B) = true := by simp [PySem.W.notFirst, h]
end DL
set_option Elab.async false
set_option linter.all false
set_option maxRecDepth 100000
/-! DL14: static methods, &, texts put together, == of plain data in except suites. -/
namespace DL
open PySem PySem.Spec L2
open PyProof.Rows hiding St
/-- a static method mt of the class at C -/
structure Sta (G : Gx) (k : Nat) (C : Addr) (mt : Str) (n : Nat) (S : SpecD) : Prop where
  ex : ∃ (f p : Addr) (rr : List Value), Fnx G k f n S [] ∧ ClX.CRead G.K C (.type "type") ∧ PySem.W.findCls G.K (.ref C) (.type "type") mt = some (.get (.builtin "staticmethod.__get__") (.ref p) .none (.ref C)) ∧ PySem.W.recIn G.K p "staticmethod" = some (.ref f :: rr) ∧ PySem.W.keepIn G.K (.ref f) = true
def tSt (C : Addr) (n : Nat) (S : SpecD) (W : WX) (to : TE) (t : TA) : TE := fun σ H Q => to σ H fun x H1 => x = .ref C ∧ t σ H1 fun vs H2 => spD n S vs H2 Q (WE W σ)
section
variable {X : Cx} {W : WX} {mt : Str} {k j n : Nat} {S : SpecD} {C : Addr} {e o : Expr} {es : List Expr} {t : TA} {to : TE} {pos apos : Pos}
theorem pe_sta {pl : Sem Bool} (c : Sta (Gx.of X) k C mt n S) (hr : Room j X.A) (hk : k ≤ j) (tk : L2N.Takes X W) (he : PE X o to) (ha : PA X (e :: es) t)
    (hst : starEach (e :: es) X.env = (false, eval e X.env) :: starEach es X.env := by rfl) (hpl : (backTo pos (starEach es X.env)).any (·.1) = false := by rfl)
    (ht : eval (.Call (.Attribute o mt apos) (e :: es) [] pos) X.env = (do
      let ov ← eval o X.env
      standAt apos.atName
      let (f, first) ← holding [ov] (getMethod ov mt pl)
      callWith pos f first (backTo pos (starEach (e :: es) X.env)) (backToKw pos (keywordEach [] X.env))) := by rfl) :
    PE X (.Call (.Attribute o mt apos) (e :: es) [] pos) (tSt C n S W to t) := by
  obtain ⟨f, p, rr, ⟨⟨fd, ps, ds, F, b, d⟩, cs⟩, rd, at_, rc, kp⟩ := c.ex
  have hds : ds = [] := by
    have := d.length
    simp only [List.map_nil, List.length_nil] at this
    exact List.length_eq_zero_iff.mp this.symm
  refine ⟨fun pins s σ H Q I h => ?_⟩
  refine PySem.W.methodCall_KW (pl := pl) (thn (he.run pins s σ H _ I h) fun u s1 ⟨x, H1, I1, rx, ex, q⟩ => ?_) ht
  subst ex
  obtain rfl : u = Value.ref C := rx
  refine PySem.W.method_cls I1.kIn rd.ga ?_
  refine PySem.W.cls_bind I1.kIn rd.rd at_ ?_
  refine wpAny_call (PySem.W.sm_get (s := { s1 with toks := s1.toks + 1 }) I1.kIn rc (PySem.W.handed_on rfl ?_))
  have I2 := I1.tok (s1.toks + 1)
  refine PySem.W.callWith_K (first := []) (h₀ := X.base) I.ok.mod.kin kp (thn (ha.run pos pins _ σ H1 _ I2 q) fun us s2 ⟨vs, H2, I3, rr, q2⟩ => ⟨I3.kIn, ?_⟩) hst hpl
  have z := run_fnSD (E := WE W) (us := us) (vs := vs) F (hr.mono hk) b d (L2N.passAt tk σ) I3 rr (by rw [List.map_nil, List.append_nil]; exact q2)
  exact z
end
section
variable {W : WX} {E : ET} {r : Rho} {m : Mu} {K : KT} {C : Addr} {n : Nat} {S : SpecD} {to : TE} {t : TA}
theorem we_sta (h : We W E to r m fun d m1 => d = .ref C ∧ Wa W E t r m1 fun ds m2 => ds.length = n ∧ S ds m2 K fun x m' => E x r m') : We W E (tSt C n S W to t) r m K := fun s H Q e z g =>
  h s H _ e z fun d m1 v H1 st mu rd ⟨ed, q⟩ => by
    subst ed
    cases rd
    refine ⟨rfl, ?_⟩
    refine q s H1 _ (e.step st mu) (z.step st) fun ds m2 vs H2 st2 mu2 rs q2 => ?_
    exact spD_of q2.1 ((e.step st mu).step st2 mu2) ((z.step st).step st2) ((g.step st).step st2) rs q2.2 fun _ _ q => q
end
/-! ### & -/
section
variable {X : Cx} {W : WX} {E : ET} {r : Rho} {m : Mu} {K : KT} {G : Gx} {j k : Nat} {C : Addr} {ns ns' : List Str} {ds ds' : List D} {S : SpecD} {d d' : D}
def oAnd (G : Gx) (j : Nat) (W : WX) : O2 := oOwn2 G j W "__and__"
theorem os_and (hr : Room j X.A) (tk : L2N.Takes X W) : OpS X (binaryOp .BitAnd) (oAnd (Gx.of X) j W) := os_own2 (op := .BitAnd) hr tk
theorem w2_andO (O : Opr G k C "__and__" 2 S) (hk : k ≤ j) (i : FldD d m C ns ds) (i' : FldD d' m C ns' ds') (h : S [d, d'] m K fun x m' => E x r m') : W2 W E (oAnd G j W) d d' r m K := w2_own O hk i i' h
/-! ### texts -/
theorem w2_addStr {a b : Str} (l : a.length + b.length ≤ sizeLine) (h : K (.str (a ++ b)) m) : W2 W E (oAdd G j W) (.str a) (.str b) r m K := w2_val (fun _ _ _ => rstr) (fun _ _ _ => rstr) (fun _ _ => .str _) (fun _ _ _ q => .inr (.inl ⟨a, b, rfl, rfl, l, q⟩)) h
theorem w2_neSame {a : Str} (h : K (.bl false) m) : W2 W E (oNeF G j W) (.str a) (.str a) r m K := w2_val (fun _ _ _ => rstr) (fun _ _ _ => rstr) (fun _ _ => .bl _) (fun _ _ _ q => .inl ⟨rfl, by rw [decide_eq_true (rfl : V.str a = V.str a)]; exact q⟩) h
theorem w2_eqSame {a : Str} (h : K (.bl true) m) : W2 W E (oEqF G j W) (.str a) (.str a) r m K := w2_val (fun _ _ _ => rstr) (fun _ _ _ => rstr) (fun _ _ => .bl _) (fun _ _ _ q => .inl ⟨rfl, by rw [decide_eq_true (rfl : V.str a = V.str a)]; exact q⟩) h
end
theorem int_len {i : Int} {k : Nat} (hk : 0 < k) (h : i.natAbs.log2 < k) : (Str.ofString (toString i)).length ≤ k + 1 := by
  rw [PySem.ofString_length]
  exact int_text_length_le hk h
/-! ### == of plain data in an except suite -/
section
variable {X : Cx} {W : WX} {E : ET} {r : Rho} {m : Mu} {K : KT} {G : Gx} {j k : Nat} {d d' : D}
def oEqHF (G : Gx) : O2 := fun x y _ H Q => rEq x y H Q ∨ rEqD G.K x y H Q
def oNeHF (G : Gx) : O2 := fun x y _ H Q => rNe x y H Q ∨ rNeD G.K x y H Q
theorem roomH64 {A : Around} (hr : L2H.RoomH j A) : A.units + 64 < cLine := by have := hr.un; omega
theorem os_eqHF (hr : L2H.RoomH j X.A) : OpS X (compareOp .Eq) (oEqHF (Gx.of X)) := (OpS.of op_eq).or (OpS.of (op_eqD (roomH64 hr)))
theorem os_neHF (hr : L2H.RoomH j X.A) : OpS X (compareOp .NotEq) (oNeHF (Gx.of X)) := (OpS.of op_ne).or (OpS.of (op_neD (roomH64 hr)))
theorem w2_eqHFI {i k : Int} (h : K (.bl (decide (i = k))) m) : W2 W E (oEqHF G) (.int i) (.int k) r m K := w2_val (fun _ _ _ => rint) (fun _ _ _ => rint) (fun _ _ => .bl _) (fun _ _ _ q => .inl ⟨rfl, by rw [dec_int, ← Bool.beq_eq_decide_eq] at *; exact q⟩) h
theorem w2_neHFI {i k : Int} (h : K (.bl (!decide (i = k))) m) : W2 W E (oNeHF G) (.int i) (.int k) r m K := w2_val (fun _ _ _ => rint) (fun _ _ _ => rint) (fun _ _ => .bl _) (fun _ _ _ q => .inl ⟨rfl, by rw [dec_int, ← Bool.beq_eq_decide_eq] at *; exact q⟩) h
theorem w2_eqHFs {p : PyData} (h1 : PD d p) (s1 : SeqAt.shaped p = true) (h : K (.bl true) m) : W2 W E (oEqHF G) d d r m K := fun s H Q a b e z ra rb g =>
  .inr ⟨p, p, h1.dp ra, h1.dp rb, s1, s1, g _ m _ H (Stp.refl _ _) e.mu (.bl _) (by rw [PySem.SeqAt.eqv_refl p (SeqAt.canLay_of_shaped s1)]; exact h)⟩
end
/-! ### a stronger promise gives a weaker one -/
theorem Fnx.imp {G : Gx} {k n : Nat} {f : Addr} {S S' : SpecD} {dd : List D} (F : Fnx G k f n S dd) (h : ∀ ds m K E, S' ds m K E → S ds m K E) : Fnx G k f n S' dd := by
  obtain ⟨⟨fd, ps, ds, F, b, d⟩, cs⟩ := F
  exact ⟨⟨fd, ps, ds, F.imp fun vs H Q E ⟨ds, m, K, E', a, b, c, q, d, e⟩ => ⟨ds, m, K, E', a, b, c, h _ _ _ _ q, d, e⟩, b, d⟩, cs⟩
theorem Mak.imp {G : Gx} {k n : Nat} {x : Str} {C : Addr} {S S' : SpecD} {dd : List D} (M : Mak G k x C n S dd) (h : ∀ ds m K E, S' ds m K E → S ds m K E) : Mak G k x C n S' dd :=
  ⟨let ⟨f, F, M⟩ := M.ex; ⟨f, F.imp h, M⟩, M.mgC⟩
end DL
set_option Elab.async false
set_option linter.all false
set_option maxRecDepth 100000
/-! DL15: an own instance ** a number. -/
namespace DL
open PySem PySem.Spec L2
open PyProof.Rows hiding St
structure PowC (K : PySem.W.Frag) (C : Addr) : Prop where
  rp : PySem.W.findIn K (.ref C) (dunderR "pow") = some none
  sb : PySem.W.subIn K (.type "int") (.ref C) = some false
section
variable {X : Cx} {W : WX} {j : Nat}
def oOwnI (G : Gx) (j : Nat) (W : WX) : O2 := fun x y σ H Q => ∃ (a C dx : Addr) (fs : List (Str × V)) (k : Nat) (S : SpecD) (i : Int), x = .ref a ∧ H a = some (.ins C dx fs) ∧ y = .int i ∧ PowC G.K C ∧ k ≤ j ∧ Opr G k C "__pow__" 2 S ∧ spD 2 S [x, y] H Q (WE W σ)
theorem os_ownI (hr : Room j X.A) (tk : L2N.Takes X W) : OpS X (binaryOp .Pow) (oOwnI (Gx.of X) j W) := by
  intro pins s σ H x y u v Q I rx ry h
  obtain ⟨a, C, dx, fs, k, S, i, rfl, ha, rfl, pc, hk, O, q⟩ := h
  obtain rfl : u = Value.ref a := rx
  obtain ⟨t, e⟩ := (show ∃ t, v = Value.int i t from ry)
  subst e
  obtain ⟨f, ⟨⟨fd, ps, ds, F, bd, d⟩, cs⟩, h1, h2⟩ := O.ex
  obtain ⟨od, J⟩ := inst_of I ha
  obtain ⟨m, fr⟩ := I.fr
  refine PySem.W.ksp_binT (T := "int") (op := .Pow) (rc := none) fr I.ok.mod.kin J rfl O.sf h1 h2 pc.rp (.inl rfl) rfl rfl pc.sb ?_
  exact wpAny_mono (run_fnSD (E := WE W) (us := [.ref a, .int i t]) (vs := [.ref a, .int i]) F (hr.mono hk) bd d (L2N.passAt tk σ) I (.cons rfl (.cons ry .nil)) q) (fun r s' hq => back_of hq) fun _ _ z => z
def oPowF (G : Gx) (j : Nat) (W : WX) : O2 := fun x y s H Q => rI CPow (fun i j => .int (i ^ j.toNat)) x y H Q ∨ oOwnI G j W x y s H Q
theorem os_powF (hr : Room j X.A) (tk : L2N.Takes X W) : OpS X (binaryOp .Pow) (oPowF (Gx.of X) j W) := (OpS.of op_pow).or (os_ownI hr tk)
end
section
variable {W : WX} {E : ET} {r : Rho} {m : Mu} {K : KT} {G : Gx} {j k : Nat} {C : Addr} {ns : List Str} {ds : List D} {S : SpecD} {d : D}
theorem w2_powF {i k : Int} (h : CPow i k ∧ K (.int (i ^ k.toNat)) m) : W2 W E (oPowF G j W) (.int i) (.int k) r m K := w2_val (fun _ _ _ => rint) (fun _ _ _ => rint) (fun _ _ => .int _) (fun _ _ _ q => .inl ⟨i, k, rfl, rfl, h.1, q⟩) h.2
theorem w2_powO {i : Int} (O : Opr G k C "__pow__" 2 S) (hk : k ≤ j) (fi : FldD d m C ns ds) (pc : PowC G.K C) (h : S [d, .int i] m K fun x m' => E x r m') : W2 W E (oPowF G j W) d (.int i) r m K := fun s H Q a b e z ra rb g => by
  obtain ⟨p, dx, gs, rfl, hp, _⟩ := fi.look e.mu ra
  cases rb
  exact .inr ⟨p, C, dx, gs, k, S, i, rfl, hp, rfl, pc, hk, O, spD_of rfl e z g (.cons ra (.cons (.int i) .nil)) h fun _ _ q => q⟩
end
end DL
set_option Elab.async false
set_option linter.all false
set_option maxRecDepth 100000
/-! DL16: a field written anew; a list that is not written any more. -/
namespace DL
open PySem PySem.Spec L2
open PyProof.Rows hiding St
def setF (f : Str) : List Str → List D → D → List D
  | n :: ns, d :: ds, x => if f = n then x :: ds else d :: setF f ns ds x
  | _, ds, _ => ds
theorem RepF.put {M : Addr → Prop} {H : Hp} {f : Str} {x : D} {y : V} (q : Rep M H x y) : ∀ {n : List Str} {d : List D} {v : List (Str × V)}, RepF M H n d v → n.contains f = true → RepF M H n (setF f n d x) (putF f y v)
  | _, _, _, .nil, h => by cases h
  | n :: ns, d :: ds, (_, v) :: vs, .cons r t, h => by
    unfold setF
    by_cases e : f = n
    · subst e
      rw [if_pos rfl]
      have e0 : putF f y ((f, v) :: vs) = (f, y) :: vs := by
        show (if f = f then (f, y) :: vs else (f, v) :: putF f y vs) = _
        rw [if_pos rfl]
      rw [e0]
      exact .cons q t
    · rw [if_neg e]
      have e0 : putF f y ((n, v) :: vs) = (n, v) :: putF f y vs := by
        show (if n = f then (n, y) :: vs else (n, v) :: putF f y vs) = _
        rw [if_neg (Ne.symm e)]
      rw [e0]
      have h' : ns.contains f = true := by
        rw [List.contains_cons] at h
        have : (f == n) = false := by simpa using e
        rw [this, Bool.false_or] at h
        exact h
      exact .cons r (RepF.put q t h')
section
variable {W : WX} {E : ET} {r : Rho} {m : Mu} {K : KT} {P : DEnds} {G : Gx} {te to : TE} {t : TS}
theorem ws_fldS {f : Str} (h : We W E te r m fun d m1 => We W E to r m1 fun o m2 => ∃ p C ns ds m3, o = .ref p ∧ At m2 p (.ins C ns ds) ∧ Cls G.K C ∧ NoAttr G.K C f ∧ ns.contains f = true ∧ Nat.ble ns.length 900 = true ∧ Put m2 p (.ins C ns (setF f ns ds d)) m3 ∧ P.nx r m3) : Ws W E (sFld G.K to te f) r m P := fun s H De e z g =>
  h s H _ e z fun d m1 v H1 s1 mu1 r1 q1 => q1 s H1 _ (e.step s1 mu1) (z.step s1) fun o m2 vo H2 s2 mu2 r2 q2 => by
    obtain ⟨p, C, ns, ds, m3, rfl, ha, hc, hn, hf, hl, hp, k⟩ := q2
    cases r2
    have q := ha.rep mu2
    cases q with
    | ins hh rf =>
      have st : ∀ o, Stp (dom m2) H2 (dom m3) (upd H2 p o) := fun o => hp.stp
      refine ⟨p, C, _, _, rfl, hh, hc, hn, by rw [rf.lens]; have := Nat.le_of_ble_eq_true hl; omega, ?_⟩
      exact g.nx r m3 s _ ((s1.trans s2).trans (st _)) (((e.step s1 mu1).step s2 mu2).step (st _) (hp.mut mu2 (.ins upd_same ((RepF.put (r1.mono s2) rf hf).mono (st _))))) k
theorem set_same {α : Type} : ∀ {l : List α} {i : Nat} {a : α}, l[i]? = some a → l.set i a = l
  | [], _, _, h => by simp at h
  | x :: l, 0, a, h => by
    simp at h
    subst h
    rfl
  | x :: l, i + 1, a, h => by
    have h' : l[i]? = some a := by simpa using h
    rw [List.set_cons_succ, set_same h']
/-- a list that is not written any more -/
theorem Ws.freeze {i : Nat} {p : Addr} {xs : List D} (hr : r[i]? = some (some (.ref p))) (h : Ws W E t (r.set i (some (.lst xs))) m P) : Ws W E t r ((p, .lst xs) :: m) P := fun s H De e z g => by
  have mu := e.mu
  have ls : Stp (dom ((p, MO.lst xs) :: m)) H (dom m) H := Stp.less fun a z => dom_cons.mpr (.inr z)
  have nd := mu.notin
  have at1 := (At.head (m := m) (p := p) (o := .lst xs)).rep mu
  cases at1 with
  | lst hh rf =>
    have e2 : EnvR (r.set i (some (.lst xs))) m s H := by
      have e1 := e.env.mono ls
      obtain ⟨y, hy, ry⟩ := e1.get hr
      cases ry
      have q := e1.set (.some (.lst nd (.inl hh) (rf.mono ls))) i
      rw [set_same hy] at q
      exact ⟨q, mu.drop⟩
    exact h s H De e2 (z.step ls) ⟨fun r' m' s' H' a b k => g.nx r' m' s' H' (ls.trans a) b k, fun d m' v H' a b c k => g.rt d m' v H' (ls.trans a) b c k, fun r' m' s' H' a b k => g.bk r' m' s' H' (ls.trans a) b k, fun r' m' s' H' a b k => g.ct r' m' s' H' (ls.trans a) b k⟩
end
end DL
set_option Elab.async false
set_option linter.all false
set_option maxRecDepth 100000
/-! DL17: how often a bool stands in a list; bit_length. -/
namespace DL
open PySem PySem.Spec L2
open PyProof.Rows hiding St
section
variable {X : Cx}
def eqb (k : Bool) : Value → Bool
  | .bool b => b == k
  | _ => false
theorem eqb_count (k : Bool) : ∀ bs : List Bool, (bs.map Value.bool).countP (eqb k) = bs.count k
  | [] => rfl
  | b :: bs => by
    rw [List.map_cons, List.countP_cons, eqb_count k bs, List.count_cons]
    rfl
def rCntB (K : PySem.W.Frag) : V → List V → Hp → VK → Prop := fun x xs H Q => ∃ (p : Addr) (bs : List Bool) (k : Bool), x = .ref p ∧ xs = [.bl k] ∧ SqL K H p (bs.map V.bl) ∧ Q (.int (bs.count k : Nat)) H
theorem mt_bcount : MtR X "list.count" (rCntB X.K) := by
  intro pins s σ H x xs v us Q I rx rxs h
  obtain ⟨p, bs, k, rfl, rfl, hs, q⟩ := h
  cases rx
  obtain ⟨u, rfl, ru⟩ := rxs.one
  cases ru
  obtain ⟨its, rv, ⟨⟨cls, dd, data, sl⟩, n, ho, hc, hdn, hd⟩, hlen⟩ := I.list hs
  simp only at hc hd
  subst hc hd
  have hb := rv.bls
  subst hb
  refine call_meets PySem.F.slot_list_count ⟨_, ho, rfl⟩ PySem.F.entry_list_count (PySem.F.args_list_count_2 _ _)
    (SeqAt.list_countAt p (bs.map Value.bool).toArray n dd sl (.bool k) (eqb k)) ⟨ho, fun y hy => ?_, ?_⟩
  · have hy' : y ∈ bs.map Value.bool := by simpa using hy
    obtain ⟨b, _, rfl⟩ := List.mem_map.mp hy'
    exact SeqAt.EqAt.bool_bool b k
  have ec : (bs.map Value.bool).toArray.toList.countP (eqb k) = bs.count k := eqb_count k bs
  refine ⟨.int (bs.count k : Nat), H, I.tok _, ⟨s.toks, ?_⟩, q⟩
  show Value.int (((bs.map Value.bool).toArray.toList.countP (eqb k) : Nat) : Int) s.toks = Value.int ((bs.count k : Nat) : Int) s.toks
  rw [ec]
end
section
variable {W : WX} {E : ET} {r : Rho} {m : Mu} {K : KT} {to : TE}
theorem we_bits (h : We W E to r m fun d m1 => ∃ i, d = .int i ∧ K (.int (Builtin.Int.intBits i : Nat)) m1) : We W E (tBits to) r m K := fun s H Q e z g =>
  h s H _ e z fun d m1 v H1 s1 mu1 r1 ⟨i, ed, k⟩ => by
    subst ed
    cases r1
    exact ⟨i, rfl, g _ m1 _ H1 s1 mu1 (.int _) k⟩
end
end DL
set_option Elab.async false
set_option linter.all false
set_option maxRecDepth 100000
/-! DL18: two new lists joined. -/
namespace DL
open PySem PySem.Spec L2
open PyProof.Rows hiding St
section
variable {W : WX} {E : ET} {r : Rho} {m : Mu} {K : KT} {G : Gx} {j : Nat}
/-- xs + zs: both were made just now; neither is written any more -/
theorem w2_catM {a b : Addr} {xs zs : List D} (hl : Nat.ble (xs.length + zs.length) 1000 = true) (h : K (.lst (xs ++ zs)) m) : W2 W E (oAdd G j W) (.ref a) (.ref b) r ((b, .lst zs) :: (a, .lst xs) :: m) K := fun s H Q x y e z rx ry g => by
  cases rx
  cases ry
  have q1 := (At.tail .head : At ((b, MO.lst zs) :: (a, MO.lst xs) :: m) a (.lst xs)).rep e.mu
  have q2 := (At.head : At ((b, MO.lst zs) :: (a, MO.lst xs) :: m) b (.lst zs)).rep e.mu
  have mu := e.mu.drop.drop
  have ls : Stp (dom ((b, MO.lst zs) :: (a, MO.lst xs) :: m)) H (dom m) H := Stp.less fun a z => dom_cons.mpr (.inr (dom_cons.mpr (.inr z)))
  cases q1 with
  | lst h1 r1 =>
    cases q2 with
    | lst h2 r2 =>
      refine .inr (.inr (.inl ⟨a, b, _, _, rfl, rfl, .inl h1, .inl h2, ?_, fun p hp => ?_⟩))
      · rw [← r1.length, ← r2.length]
        exact Nat.le_trans (Nat.le_of_ble_eq_true hl) (by decide : 1000 ≤ sizeLine)
      · exact g _ m _ _ (ls.trans (Stp.new hp)) (mu.new hp) (.lst (fun zz => by obtain ⟨u, hu⟩ := mu.there zz; rw [hp] at hu; cases hu) (.inl upd_same) ((Reps.append r1 r2).mono (ls.trans (Stp.new hp)))) h
/-- the two newest mutable objects the other way round -/
theorem Ws.swap {t : TS} {P : DEnds} {p q : Addr × MO} (h : Ws W E t r (q :: p :: m) P) : Ws W E t r (p :: q :: m) P := fun s H De e z g => by
  have ls : Stp (dom (p :: q :: m)) H (dom (q :: p :: m)) H := Stp.less fun a z => by
    rcases dom_cons.mp z with z | z
    · exact dom_cons.mpr (.inr (dom_cons.mpr (.inl z)))
    · rcases dom_cons.mp z with z | z
      · exact dom_cons.mpr (.inl z)
      · exact dom_cons.mpr (.inr (dom_cons.mpr (.inr z)))
  have mu := e.mu
  have nd := mu.nd
  have mu2 : MutR (q :: p :: m) H := by
    refine ⟨?_, fun x hx => ?_⟩
    · simp only [List.map_cons] at nd ⊢
      have h1 := List.nodup_cons.mp nd
      have h2 := List.nodup_cons.mp h1.2
      refine List.nodup_cons.mpr ⟨fun z => ?_, List.nodup_cons.mpr ⟨fun z => h1.1 (List.mem_cons_of_mem _ z), h2.2⟩⟩
      rcases List.mem_cons.mp z with z | z
      · exact h1.1 (by rw [← z]; exact List.mem_cons_self)
      · exact h2.1 z
    · have hx' : x ∈ p :: q :: m := by
        rcases List.mem_cons.mp hx with z | z
        · exact List.mem_cons_of_mem _ (by rw [z]; exact List.mem_cons_self)
        · rcases List.mem_cons.mp z with z | z
          · rw [z]; exact List.mem_cons_self
          · exact List.mem_cons_of_mem _ (List.mem_cons_of_mem _ z)
      exact (mu.at_ x hx').mono ls fun _ e => e
  exact h s H De ⟨e.env.mono ls, mu2⟩ (z.step ls) ⟨fun r' m' s' H' a b k => g.nx r' m' s' H' (ls.trans a) b k, fun d m' v H' a b c k => g.rt d m' v H' (ls.trans a) b c k, fun r' m' s' H' a b k => g.bk r' m' s' H' (ls.trans a) b k, fun r' m' s' H' a b k => g.ct r' m' s' H' (ls.trans a) b k⟩
/-- xs.count(k), bools all -/
theorem we_bcnt {to : TE} {ta : TA} (h : We W E to r m fun o m1 => ∃ (xs : List D) (bs : List Bool), o = .lst xs ∧ xs = bs.map D.bl ∧ Wa W E ta r m1 fun ds m2 => ∃ k, ds = [.bl k] ∧ K (.int (bs.count k : Nat)) m2) : We W E (tBM G.K "list" (rCntB G.K) to ta) r m K := fun s H Q e z g =>
  h s H _ e z fun o m1 v H1 s1 mu1 r1 q => by
    obtain ⟨xs, bs, rfl, rfl, q⟩ := q
    cases r1 with
    | @lst a _ vs mm hh rr =>
      have e1 := rep_bls rr
      subst e1
      refine ⟨Or.inl ⟨rfl, _, rd_l hh⟩, ?_⟩
      refine q s H1 _ (e.step s1 mu1) (z.step s1) fun ds m2 vs H2 s2 mu2 r2 q2 => ?_
      obtain ⟨k, rfl, kk⟩ := q2
      cases r2 with
      | cons rd t =>
        cases t
        cases rd
        exact ⟨a, bs, k, rfl, rfl, rd_l (s2.rd mm hh).1, g _ m2 _ _ (s1.trans s2) mu2 (.int _) kk⟩
end
section
variable {X : Cx} {KK : PySem.W.Frag} {o e : Expr} {es : List Expr} {to : TE} {t : TA} {apos cpos : Pos}
/-- .. as a term, also within an except suite -/
theorem pe_cntK (hK : X.K = KK) (ho : PE X o to) (ha : PA X (e :: es) t)
    (hbase : attributeBase o "count" X.env (eval o X.env) = eval o X.env := by rfl)
    (hfew : ((backTo cpos (starEach (e :: es) X.env)).all (fun x => !x.1) && (backToKw cpos (keywordEach [] X.env)).all (fun x => x.1.isSome)
      && decide ((e :: es).length + ([] : List Keyword).length + (if ([] : List Keyword).isEmpty then 0 else 1) < 30)) = true := by rfl)
    (hline : (apos.endLine == cpos.line) = true := by rfl) (hs : starEach (e :: es) X.env = (false, eval e X.env) :: starEach es X.env := by rfl) (hplain : (backTo cpos (starEach es X.env)).any (·.1) = false := by rfl) :
    PE X (.Call (.Attribute o "count" apos) (e :: es) [] cpos) (tBM KK "list" (rCntB KK) to t) := by
  subst hK
  exact pe_bm PySem.F.plainAttrs_list PySem.F.slot_list_count PySem.F.type_list_count mt_bcount ho ha hbase hfew hline hs hplain
end
end DL
set_option Elab.async false
set_option linter.all false
set_option maxRecDepth 100000
/-! DL19: try with several clauses, each with a name: except X as n: .., except Y as k: .. -/
namespace DL
open PySem PySem.Spec L2
open PyProof.Rows hiding St
section
variable {X : Cx} {pins : List (Addr × Obj)} {σ : L2.St} {H : Hp} {s sI : Shared} {a : Addr} {cls : Value} {d : Option Addr} {B : Heap}
/-- a caught exception at a: the state s is sI but for it -/
structure Got (X : Cx) (pins : List (Addr × Obj)) (σ : L2.St) (H : Hp) (sI s : Shared) (a : Addr) (cls : Value) (d : Option Addr) (B : Heap) : Prop where
  inv : Inv X pins σ H sI
  old : ∀ b o, sI.heap.get? b = some o → b ∉ frs X.stack → B.get? b = some o
  up : sI.heap.UpToSlots s.heap
  fly : HandSPX.FlyingZ B (X.env :: X.outer) a (L2N.Zn cls d) s.heap
  os : s.os = sI.os
  gens : AllBare s.gens
  na : H a = none
theorem Got.here (g : Got X pins σ H sI s a cls d B) : Inv X pins σ H s := g.inv.landed g.old g.fly.1 g.up g.os g.gens
theorem Got.again {h : Heap} (g : Got X pins σ H sI s a cls d B) (f : HandSPX.FlyingZ B (X.env :: X.outer) a (L2N.Zn cls d) h) (u : s.heap.UpToSlots h) : Got X pins σ H sI { s with heap := h } a cls d B :=
  ⟨g.inv, g.old, g.up.trans u, f, g.os, g.gens, g.na⟩
/-- the suite's state -/
theorem Got.low {oe : Obj} {vs : Array Value} (g : Got X pins σ H sI s a cls d B) (hf : X.env.frame = some X.env.locals) (ho : s.heap.get? a = some oe) (hd : oe.data = .fields vs) :
    Inv (X.suite a ((a, oe) :: (X.pn ++ pins))) [] σ H s := by
  have off : a ∉ frs (X.env :: X.outer) := fun m => by
    obtain ⟨_, u, e, n⟩ := g.fly.2.2.1.mem m
    cases ho.symm.trans e
    exact n _ hd
  refine g.here.suite ho hd g.na (fun e => off ?_) (fun m => off ?_)
  · exact List.mem_filterMap.mpr ⟨X.env, .head _, by rw [hf, e]⟩
  · obtain ⟨v, m1, m2⟩ := List.mem_filterMap.mp m
    exact List.mem_filterMap.mpr ⟨v, .tail _ m1, m2⟩
abbrev Hnd (X : Cx) (pins : List (Addr × Obj)) (D : Ends) (hs : List ExceptHandler) (a : Addr) (s : Shared) : Prop := wpAny (model X.prog X.w) X.A (handleBy (.ref a) X.env hs) (SP X pins D) X.xe s
/-- no clause is left: it flies on -/
theorem Got.none {W : WX} {D : Ends} (g : Got X pins σ H sI s a cls d B) (hs : X.stack = X.env :: X.outer) (hf : X.env.frame = some X.env.locals) (tk : L2N.Takes X W) (w : W cls d σ H) : Hnd X pins D [] a s := by
  refine wpAny_handleBy_nil ?_
  obtain ⟨oe, vs, t, ot, ts, ho, _, hd, h1, _⟩ := id g.fly.2.2.2
  have fin : wpAny (model X.prog X.w) X.A (setFlight (.ref a) X.env.frame) (fun _ s1 => wpAny (model X.prog X.w) X.A (throw (.ref a) : Sem Flow) (SP X pins D) X.xe s1) X.xe s := by
    rw [hf]
    exact HandSPX.setFlight_upZ g.fly fun h hh u => wpAny_throw (tk _ _ ⟨a, B, sI, pins, σ, H, cls, d, rfl, g.inv, g.old, g.up.trans u, .inr (.inr (by rw [hs]; exact hh)), g.na, g.os, g.gens, w⟩)
  unfold PySem.passOn
  refine wpAny_bind (wpAny_field ho hd h1 ?_)
  have nn : ¬ (Value.ref t == Value.none) = true := by simp
  rw [if_neg nn]
  first
    | exact wpAny_bind (wpAny_pure (wpAny_bind fin))
    | exact wpAny_bind fin
/-- one clause is asked; it takes it, or the others are asked -/
theorem Got.clause {x n : Str} {c : Value} {i : Nat} {b₀ : Stmt} {suite : List Stmt} {np p2 : Pos} {rest : List ExceptHandler} {ts : Addr → Value → Option Addr → TS} {W : WX} {D : Ends} (g : Got X pins σ H sI s a cls d B)
    (hf : X.env.frame = some X.env.locals) (hN : X.N.Nodup) (hi : X.N[i]? = some n) (hl : X.env.kindOf n = some .local) (hc : Names X x c)
    (su : ∀ (a : Addr) (oe : Obj) (cls : Value) (d : Option Addr) (pn : List (Addr × Obj)), L2N.Zn cls d oe → (∃ vs, oe.data = .fields vs) → PSs (X.suite a ((a, oe) :: pn)) (b₀ :: suite) (ts a cls d))
    (w : wAs X.K c i ts W D cls d σ H) (k : W cls d σ H → Hnd X pins D rest a s) : Hnd X pins D (.ExceptHandler (some (.Name x np)) (some n) (b₀ :: suite) p2 :: rest) a s := by
  obtain ⟨oe, vs, ho, hz, hd⟩ := g.fly.there
  have low := g.low hf ho hd
  obtain ⟨b, hb, yes, no⟩ := w
  refine wpAny_handleBy_cons (codeAny_handlers_test ?_) (fun q => nomatch q)
  have ask : ∀ {Q E : Value → Shared → Prop}, Q c s → wpAny (model X.prog X.w) (X.A.mark (some (.ref a))) (eval (.Name x np) X.env) Q E s := fun q => by
    rcases hc with ⟨h1, h2, h3 | ⟨h3, h4, h5⟩⟩
    · exact ld_glob (X := X.suite a ((a, oe) :: (X.pn ++ pins))) low h1 h3 q h2
    · exact ld_blt (X := X.suite a ((a, oe) :: (X.pn ++ pins))) low h1 h3 h4 q h5 h2
  have ty : PySem.W.Looks (model X.prog X.w) s.heap (typeOf (.ref a)) cls := fun A Q E z l q => wpAny_typeOf_ref (l _ _ ho) (by rw [hz.1]; exact q)
  refine ask ((PySem.W.exm_one (M := model X.prog X.w) g.here.kIn ty hb).here ?_)
  cases b with
  | false => exact k (no rfl)
  | true =>
    refine codeAny_handlers_suite_as (HandSPX.lands_againZ g.fly fun h fl u => ?_)
    have g2 := g.again fl u
    obtain ⟨oe2, vs2, ho2, hz2, hd2⟩ := g2.fly.there
    refine store_ok (X := X.suite a ((a, oe2) :: (X.pn ++ pins))) (v := .ref a) (g2.low hf ho2 hd2) hN hi (.inl hl) rfl (fun s5 S5 => ?_) (.inr hl)
    have run := (su a oe2 cls d (X.pn ++ pins) hz2 ⟨vs2, hd2⟩).run [] s5 _ H _ S5 (yes rfl a g.na)
    refine wpAny_mono run (fun f s6 z => ?_) (fun _ _ z => z.elim)
    have bye : ∀ {σ6 : L2.St} {H6 : Hp} {Q : Shared → Prop}, Inv (X.suite a ((a, oe2) :: (X.pn ++ pins))) [] σ6 H6 s6 → (∀ s7, Inv X pins (σ6.set i Option.none) H6 s7 → Q s7) →
        wpAny (model X.prog X.w) X.A (do bindName X.env n .none; unbindBehindTheSuite X.env n p2) (fun _ s7 => Q s7) X.xe s6 := fun S6 q => gone_ok (S6.unsuite g.inv.ok) hN hi hl q
    cases f with
    | ret u =>
      obtain ⟨v, σ6, H6, S6, rv, q⟩ := z
      exact bye S6 fun s7 J => ⟨_, _, _, J, rv, q⟩
    | next =>
      obtain ⟨σ6, H6, S6, q⟩ := z
      exact bye S6 fun s7 J => ⟨_, _, J, q⟩
    | brk =>
      obtain ⟨σ6, H6, S6, q⟩ := z
      exact bye S6 fun s7 J => ⟨_, _, J, q⟩
    | cont =>
      obtain ⟨σ6, H6, S6, q⟩ := z
      exact bye S6 fun s7 J => ⟨_, _, J, q⟩
end
def tTry2 (K : PySem.W.Frag) (c1 : Value) (i1 : Nat) (t1 : Addr → Value → Option Addr → TS) (c2 : Value) (i2 : Nat) (t2 : Addr → Value → Option Addr → TS) (tb : WX → TS) (W : WX) : TS := fun D σ H => tb (wAs K c1 i1 t1 (wAs K c2 i2 t2 W D) D) D σ H
theorem ps_tryD2 {X : Cx} {x1 n1 x2 n2 : Str} {c1 c2 : Value} {i1 i2 : Nat} {b1 b2 : Stmt} {body su1 su2 : List Stmt} {np1 np2 p1 p2 pos : Pos} {tb : WX → TS} {t1 t2 : Addr → Value → Option Addr → TS} {W : WX}
    (hs : X.stack = X.env :: X.outer) (hf : X.env.frame = some X.env.locals) (hN : X.N.Nodup) (hi1 : X.N[i1]? = some n1) (hl1 : X.env.kindOf n1 = some .local) (hi2 : X.N[i2]? = some n2) (hl2 : X.env.kindOf n2 = some .local) (hc1 : Names X x1 c1) (hc2 : Names X x2 c2) (tk : L2N.Takes X W)
    (hb : ∀ (W : WX) (pn : List (Addr × Obj)) (xe : Value → Shared → Prop), L2N.Takes (X.tr pn xe) W → PassesOwn (model X.prog X.w) X.A X.env xe → PSs (X.tr pn xe) body (tb W))
    (hsu1 : ∀ (a : Addr) (oe : Obj) (cls : Value) (d : Option Addr) (pn : List (Addr × Obj)), L2N.Zn cls d oe → (∃ vs, oe.data = .fields vs) → PSs (X.suite a ((a, oe) :: pn)) (b1 :: su1) (t1 a cls d))
    (hsu2 : ∀ (a : Addr) (oe : Obj) (cls : Value) (d : Option Addr) (pn : List (Addr × Obj)), L2N.Zn cls d oe → (∃ vs, oe.data = .fields vs) → PSs (X.suite a ((a, oe) :: pn)) (b2 :: su2) (t2 a cls d)) :
    PS X (.Try body [.ExceptHandler (some (.Name x1 np1)) (some n1) (b1 :: su1) p1, .ExceptHandler (some (.Name x2 np2)) (some n2) (b2 :: su2) p2] [] [] pos) (tTry2 X.K c1 i1 t1 c2 i2 t2 tb W) := by
  constructor
  intro pins s σ H D I h
  have ok := I.ok
  refine wpAny_Try_except ?_
  have B := hb (wAs X.K c1 i1 t1 (wAs X.K c2 i2 t2 W D) D) (X.pn ++ pins) (fun e s1 => wpAny (model X.prog X.w) X.A (noteFrame e X.env) (fun _ s2 => wpAny (model X.prog X.w) X.A (setFlight e none)
    (fun _ s3 => wpAny (model X.prog X.w) X.A (handleBy e X.env [.ExceptHandler (some (.Name x1 np1)) (some n1) (b1 :: su1) p1, .ExceptHandler (some (.Name x2 np2)) (some n2) (b2 :: su2) p2]) (SP X pins D) X.xe s3) X.xe s2) X.xe s1) ?tk PassesOwn.looking
  case tk =>
    rintro u s' ⟨a, B, sI, pins', σ', H', cls, d, rfl, J, nb, up, sky, na, os, ag, w⟩
    refine L2N.Sky.land (env := X.env) (outer := X.outer) L2N.Zn.steady (by rw [ok.frames, hs]) hf (by rw [← hs]; exact sky) fun h3 fl up3 => ?_
    have g : Got X pins σ' H' sI { s' with heap := h3 } a cls d B := ⟨J.ofTry ok, nb, up.trans up3, fl, os, ag, na⟩
    exact g.clause hf hN hi1 hl1 hc1 hsu1 w fun w2 => g.clause hf hN hi2 hl2 hc2 hsu2 w2 fun w3 => g.none hs hf tk w3
  refine wpAny_mono (B.run [] s σ H D (I.toTry _) h) (fun f s1 z => ?_) fun e s1 z => z
  cases f with
  | next =>
    obtain ⟨σ', H', J, q⟩ := z
    exact wpAny_execs_nil ⟨σ', H', J.ofTry ok, q⟩
  | ret u =>
    obtain ⟨v, σ', H', J, r, q⟩ := z
    exact ⟨v, σ', H', J.ofTry ok, r, q⟩
  | brk =>
    obtain ⟨σ', H', J, q⟩ := z
    exact ⟨σ', H', J.ofTry ok, q⟩
  | cont =>
    obtain ⟨σ', H', J, q⟩ := z
    exact ⟨σ', H', J.ofTry ok, q⟩
section
variable {W : WX} {E : ET} {r : Rho} {m : Mu} {K : PySem.W.Frag} {P : DEnds} {c1 c2 : Value} {i1 i2 : Nat} {tb : WX → TS} {t1 t2 : Addr → Value → Option Addr → TS}
theorem wAs_rz {De : Ends} {c : Value} {i : Nat} {ts : Addr → Value → Option Addr → TS} {H : Hp} (z : Rz W E m H) (g : GoS m H P De) : Rz (wAs K c i ts W De) (eAs K c i ts P E) m H := by
  intro x r' m' cls dd s' H' st er rx ⟨b, hb, ht, hf⟩
  obtain rfl := rx.1
  refine ⟨b, hb, fun hbt a ha => ?_, fun hbf => z x r' m' _ dd s' H' st er rx (hf hbf)⟩
  have g' := g.step st
  refine ht hbt a dd _ H' _ (er.put (repX_exc rx)) (fun _ _ _ _ _ _ _ _ _ _ q => q.elim) ?_
  have back : ∀ {r2 : Rho} {m2 : Mu} {s2 : L2.St} {H2 : Hp}, EnvR r2 m2 s2 H2 → EnvR (r2.set i none) m2 (s2.set i none) H2 := fun e2 => ⟨e2.env.set (.none _) i, e2.mu⟩
  exact ⟨fun r2 m2 s2 H2 a2 b2 q => g'.nx _ m2 _ H2 a2 (back b2) q, g'.rt, fun r2 m2 s2 H2 a2 b2 q => g'.bk _ m2 _ H2 a2 (back b2) q, fun r2 m2 s2 H2 a2 b2 q => g'.ct _ m2 _ H2 a2 (back b2) q⟩
theorem ws_try2 (h : ∀ W', Ws W' (eAs K c1 i1 t1 P (eAs K c2 i2 t2 P E)) (tb W') r m P) : Ws W E (tTry2 K c1 i1 t1 c2 i2 t2 tb W) r m P := fun s H De e z g =>
  h _ s H De e (wAs_rz (wAs_rz z g) g) g
end
end DL
set_option Elab.async false
set_option linter.all false
set_option maxRecDepth 100000
/-! DL20: abs of an own instance; lists joined into a new one that is written later. -/
namespace DL
open PySem PySem.Spec L2
open PyProof.Rows hiding St
section
variable {X : Cx} {W : WX} {j k : Nat} {f : Addr} {fd : FuncData} {ps : List Str} {sp : Sp} {ds : List Value} {dvs : List V} {Ex : L2.St → XK} {CXx : CXT}
/-- an own def that a builtin calls -/
theorem run_in {pins : List (Addr × Obj)} {σ : L2.St} {H : Hp} {s : Shared} {Q : VK} {us : List Value} {vs : List V} (F : FnOk X.prog X.w X.K X.mg X.base CXx k f fd ps sp) (hr : Room (k + 1) X.A) (hb : Binds X.K fd ps ds) (hd : Vals dvs ds) (hx : PassesAt CXx X σ (Ex σ))
    (I : Inv X pins σ H s) (r : Vals vs us) (h : sp (vs ++ dvs) H Q (Ex σ)) : wpAny (model X.prog X.w) X.A.in1 (call (.ref f) us) (EP X pins σ Q) X.xe s := by
  have rr := r.append hd
  have n : (us ++ ds).length = ps.length := rr.length.symm.trans (F.len _ _ _ _ h)
  have go := F.run X.A.in1 X.stack s H ⟨us, []⟩ (us ++ ds) (vs ++ dvs) Q (Ex σ) hr.in1 I.env0.in1 (hb s us I.kIn n) rr h
  refine wpAny_call (codeAny_mono go ?_)
  intro res s' z
  match res, z with
  | .error e, z => exact hx pins H s e s' I z
  | .ok (.ret u), z => exact I.after z
  | .ok .next, z => exact z.elim
  | .ok .brk, z => exact z.elim
  | .ok .cont, z => exact z.elim
def cAbsO (G : Gx) (j : Nat) (W : WX) : OC := fun xs σ H Q => rAbsI xs H Q ∨ ∃ (a C dx : Addr) (fs : List (Str × V)) (k : Nat) (S : SpecD), xs = [.ref a] ∧ H a = some (.ins C dx fs) ∧ k + 1 ≤ j ∧ Opr G k C "__abs__" 1 S ∧ spD 1 S xs H Q (WE W σ)
theorem cs_absO (hr : Room j X.A) (tk : L2N.Takes X W) : CallS X (.builtin "abs") (cAbsO (Gx.of X) j W) := by
  intro pins s σ H xs us Q I ru h
  rcases h with h | h
  · exact cs_abs pins s σ H xs us Q I ru h
  · obtain ⟨a, C, dx, fs, k, S, rfl, ha, hk, O, q⟩ := h
    cases ru with
    | cons r t =>
      cases t
      obtain rfl : _ = Value.ref a := r
      obtain ⟨f, ⟨⟨fd, ps, ds, F, bd, d⟩, cs⟩, h1, h2⟩ := O.ex
      obtain ⟨od, J⟩ := inst_of I ha
      have run := run_in (Ex := WE W) (us := [.ref a]) (vs := [.ref a]) F (hr.mono hk) bd d (L2N.passAt tk σ) I (.cons rfl .nil) q
      refine Calls.call_function_entry kind_abs plain_abs entry_abs (args_abs _) ?_
      unfold Builtin.«abs»
      refine wpAny_bind (m := oneArg "abs" _) (wpAny_pure ?_)
      refine wpAny_bind (m := callSpecial? (.ref a) (Str.ofString "__abs__")) (PySem.W.special_fn I.kIn J h1 (beq_iff_eq.mp h2) ?_)
      refine wpAny_mono run (fun r s' hq => ?_) fun _ _ z => z
      exact wpAny_pure ⟨_, rfl, hq⟩
end
section
variable {W : WX} {E : ET} {r : Rho} {m : Mu} {K : KT} {G : Gx} {j k : Nat} {C : Addr} {ns : List Str} {ds : List D} {S : SpecD} {d : D}
theorem wc_absI {i : Int} (h : K (.int (i.natAbs : Int)) m) : Wc W E (cAbsO G j W) [.int i] r m K := fun s H Q vs e z rs g => .inl (wc_abs (K := K) h s H Q vs e z rs g)
theorem wc_absO (O : Opr G k C "__abs__" 1 S) (hk : k + 1 ≤ j) (fi : FldD d m C ns ds) (h : S [d] m K fun x m' => E x r m') : Wc W E (cAbsO G j W) [d] r m K := fun s H Q vs e z rs g => by
  cases rs with
  | cons rv t =>
    cases t
    obtain ⟨p, dx, gs, rfl, hp, _⟩ := fi.look e.mu rv
    exact .inr ⟨p, C, dx, gs, k, S, rfl, hp, hk, O, spD_of rfl e z g (.cons rv .nil) h fun _ _ q => q⟩
/-- xs + zs, made just now, joined into a list that is written or joined again -/
theorem w2_catN {a b : Addr} {xs zs : List D} (hl : Nat.ble (xs.length + zs.length) 1000 = true) (h : ∀ p, ¬ dom m p → K (.ref p) ((p, .lst (xs ++ zs)) :: m)) : W2 W E (oAdd G j W) (.ref a) (.ref b) r ((b, .lst zs) :: (a, .lst xs) :: m) K := fun s H Q x y e z rx ry g => by
  cases rx
  cases ry
  have q1 := (At.tail .head : At ((b, MO.lst zs) :: (a, MO.lst xs) :: m) a (.lst xs)).rep e.mu
  have q2 := (At.head : At ((b, MO.lst zs) :: (a, MO.lst xs) :: m) b (.lst zs)).rep e.mu
  have mu := e.mu.drop.drop
  have ls : Stp (dom ((b, MO.lst zs) :: (a, MO.lst xs) :: m)) H (dom m) H := Stp.less fun a z => dom_cons.mpr (.inr (dom_cons.mpr (.inr z)))
  cases q1 with
  | lst h1 r1 =>
    cases q2 with
    | lst h2 r2 =>
      refine .inr (.inr (.inl ⟨a, b, _, _, rfl, rfl, .inl h1, .inl h2, ?_, fun p hp => ?_⟩))
      · rw [← r1.length, ← r2.length]
        exact Nat.le_trans (Nat.le_of_ble_eq_true hl) (by decide : 1000 ≤ sizeLine)
      · have st : ∀ o, Stp (dom ((b, MO.lst zs) :: (a, MO.lst xs) :: m)) H (dom ((p, MO.lst (xs ++ zs)) :: m)) (upd H p o) := fun o => ls.trans (Stp.newM hp)
        have nd : ¬ dom m p := fun w => by
          obtain ⟨u, hu⟩ := mu.there w
          rw [hp] at hu
          cases hu
        exact g _ _ _ _ (st _) (mu.newM hp (.lst upd_same ((Reps.append r1 r2).mono (st _)))) (.ref p) (h p nd)
end
end DL
set_option Elab.async false
set_option linter.all false
set_option maxRecDepth 100000
set_option maxHeartbeats 1000000
/-! DLZ: zip of any two of lists and tuples. -/
namespace DL
open PySem PySem.Spec L2
open PyProof.Rows hiding St

/-- what is gone over: a tuple (true) or a list -/
def SIt (k : Bool) (h : Heap) (i l : Addr) (n : Nat) : Prop := match k with
  | true => h.IsTupleIter i l n
  | false => h.IsListIter i l n
def SSq (k : Bool) (h : Heap) (l : Addr) (xs : Array Value) : Prop := match k with
  | true => h.IsTuple l xs
  | false => h.IsList l xs
theorem SIt.ext {k : Bool} {h h' : Heap} {i l c : Addr} {n : Nat} (x : SIt k h i l n) (e : Heap.ExtBut c h h') (ne : i ≠ c) : SIt k h' i l n := match k, x with
  | true, x => Heap.IsTupleIter.extBut x e ne
  | false, x => Heap.IsListIter.extBut x e ne
theorem SIt.obj {k : Bool} {h : Heap} {i l : Addr} {n : Nat} (x : SIt k h i l n) : ∃ o, h.get? i = some o ∧ ∀ v, o.data ≠ .cell v := match k, x with
  | true, x => by
    obtain ⟨o, e, _, d⟩ := x
    exact ⟨o, e, fun v q => by rw [d] at q; cases q⟩
  | false, x => by
    obtain ⟨o, e, _, d⟩ := x
    exact ⟨o, e, fun v q => by rw [d] at q; cases q⟩
theorem SIt.at {k : Bool} {h h' : Heap} {i l : Addr} {n : Nat} (x : SIt k h i l n) (e : ∀ o, h.get? i = some o → h'.get? i = some o) : SIt k h' i l n := match k, x with
  | true, x => Heap.IsTupleIter.at x e
  | false, x => Heap.IsListIter.at x e
theorem SSq.ext {k : Bool} {h h' : Heap} {l c : Addr} {xs : Array Value} (x : SSq k h l xs) (e : Heap.ExtBut c h h') (ne : l ≠ c) : SSq k h' l xs := match k, x with
  | true, x => Heap.IsTuple.extBut x e ne
  | false, x => Heap.IsList.extBut x e ne
theorem SSq.push {k : Bool} {h : Heap} {l : Addr} {xs : Array Value} (x : SSq k h l xs) (o : Obj) : SSq k (h.push o) l xs := match k, x with
  | true, x => Heap.IsTuple.push x o
  | false, x => Heap.IsList.push x o
theorem SSq.lt {k : Bool} {h : Heap} {l : Addr} {xs : Array Value} (x : SSq k h l xs) : l < h.objs.size := match k, x with
  | true, x => by
    obtain ⟨o, e, _⟩ := x
    exact Heap.lt_size e
  | false, x => by
    obtain ⟨o, e, _⟩ := x
    exact Heap.lt_size e
/-- the new iterator over it -/
def itO (k : Bool) (l : Addr) : Obj := { cls := .type (match k with | true => "tuple_iterator" | false => "list_iterator"), data := .fields #[.ref l, .int 0 0] }
theorem SIt.of {k : Bool} {h : Heap} {i l : Addr} (e : h.get? i = some (itO k l)) : SIt k h i l 0 := match k, e with
  | true, e => ⟨_, e, rfl, rfl⟩
  | false, e => ⟨_, e, rfl, rfl⟩
section
variable {prog : Program} {w : World} {A : Around} {E : Value → Shared → Prop} {s : Shared} {k kb : Bool}
theorem nextS_item {it l : Addr} {i : Nat} {items : Array Value} {x : Value} {Q : Value → Shared → Prop} (hit : SIt k s.heap it l i) (hl : SSq k s.heap l items) (hx : items[i]? = some x)
    (hQ : ∀ h', SIt k h' it l (i + 1) → Heap.SameBut it s.heap h' → Q x { s with heap := h' }) : wpAny (model prog w) A (Builtin.SmallTypes.nextOf (.ref it)) Q E s := by
  cases k with
  | true => exact RZ.nextOf_tuple_item hit hl hx hQ
  | false => exact wpAny_nextOf_list_item hit hl hx hQ
theorem nextS_end {it l : Addr} {i : Nat} {items : Array Value} {Q : Value → Shared → Prop} (hh : A.handled = none) (hit : SIt k s.heap it l i) (hl : SSq k s.heap l items) (hx : items[i]? = none)
    (hE : ∀ h' e, Heap.ExtBut it s.heap h' → (∃ o, h'.get? e = some o ∧ o.cls = .type "StopIteration") → E (.ref e) { s with heap := h' }) : wpAny (model prog w) A (Builtin.SmallTypes.nextOf (.ref it)) Q E s := by
  cases k with
  | true => exact RZ.nextOf_tuple_end hh hit hl hx hE
  | false => exact wpAny_nextOf_list_end hh hit hl hx hE
theorem pyIterS {l : Addr} {items : Array Value} {Q : Value → Shared → Prop} (hl : SSq k s.heap l items) (hQ : Q (.ref s.heap.objs.size) { s with heap := s.heap.push (itO k l) }) : wpAny (model prog w) A (pyIter (.ref l)) Q E s := by
  cases k with
  | true => exact wpAny_pyIter_tuple hl hQ
  | false => exact wpAny_pyIter_list hl hQ

/-- one turn of zip: a pair, or the end of one of the two -/
theorem zipS_next {z TI TO i1 i2 l1 l2 : Addr} {n1 n2 : Nat} {xs ys : Array Value} {a b : Value} {Q : Value → Shared → Prop} (hh : A.handled = none) (D : ZipApart z TI TO i1 i2 l1 l2)
    (hz : IsZip s.heap z TI TO .none) (hTI : IsPair s.heap TI (.ref i1) (.ref i2)) (hTO : IsPair s.heap TO a b)
    (h1 : SIt k s.heap i1 l1 n1) (h2 : SIt kb s.heap i2 l2 n2) (hl1 : SSq k s.heap l1 xs) (hl2 : SSq kb s.heap l2 ys)
    (hQ : ∀ x y h', xs[n1]? = some x → ys[n2]? = some y → IsZip h' z TI TO (rawInt s.heap.objs.size) → IsPair h' TO x y → SIt k h' i1 l1 (n1 + 1) → SIt kb h' i2 l2 (n2 + 1) → IsPair h' s.heap.objs.size x y →
      (∀ c o, c ≠ z → c ≠ TO → c ≠ i1 → c ≠ i2 → s.heap.get? c = some o → h'.get? c = some o) → Q (.ref s.heap.objs.size) { s with heap := h' })
    (hE : xs[n1]? = none ∨ ys[n2]? = none → ∀ h' e, (∀ c o, c ≠ z → c ≠ TO → c ≠ i1 → c ≠ i2 → s.heap.get? c = some o → h'.get? c = some o) → (∃ o, h'.get? e = some o ∧ o.cls = .type "StopIteration") → E (.ref e) { s with heap := h' }) :
    wpAny (model prog w) A (Builtin.«zip.__next__» ⟨[.ref z], []⟩) (fun fin s' => ∃ v, fin = .done (.ret v) ∧ Q v s') E s := by
  show wpAny _ _ (field (.ref z) 2 >>= _) _ _ _
  refine wpAny_bind (wpAny_field hz rfl (x := .bool false) rfl ?_)
  show wpAny _ _ (field (.ref z) 3 >>= _) _ _ _
  refine wpAny_bind (wpAny_field hz rfl (x := .ref TI) rfl (wpAny_bind (wpAny_seqItems hTI rfl ?_)))
  show wpAny _ _ (Builtin.SmallTypes.ownedTupleIsFree (.ref z) >>= _) _ _ _
  refine wpAny_bind ?_
  unfold Builtin.SmallTypes.ownedTupleIsFree
  refine wpAny_bind (wpAny_field hz rfl (x := .none) rfl (wpAny_pure ?_))
  simp only [if_true]
  refine wpAny_bind (wpAny_rule (wpAny_bind (wpAny_field hz rfl (x := .ref TO) rfl (wpAny_bind (wpAny_setField_rec hz (by simp) fun ha za sa => ?_)))))
  replace za : IsZip ha z TI TO .ellipsis := za
  have ea := sa.extBut
  -- z is open at the loop: what a raise does
  have out : ∀ (h' : Heap) (e : Addr), IsZip h' z TI TO .ellipsis → (∀ c o, c ≠ z → c ≠ TO → c ≠ i1 → c ≠ i2 → s.heap.get? c = some o → h'.get? c = some o) → (∃ o, h'.get? e = some o ∧ o.cls = .type "StopIteration") → (xs[n1]? = none ∨ ys[n2]? = none) →
      ∀ {Q' : Unit → Shared → Prop}, (∀ h'', (∃ o, h''.get? e = some o ∧ o.cls = .type "StopIteration") → (∀ c o, c ≠ z → c ≠ TO → c ≠ i1 → c ≠ i2 → s.heap.get? c = some o → h''.get? c = some o) → Q' () { s with heap := h'' }) → wpAny (model prog w) A (setField (.ref z) 0 .none) Q' E { s with heap := h' } := fun h' e zz kk he hn Q' g => by
    obtain ⟨oe, hoe, hce⟩ := he
    have ne : e ≠ z := fun q => by
      subst q
      rw [zz] at hoe
      cases hoe
      simp at hce
    exact wpAny_setField_rec zz (by simp) fun h'' _ s2 => g h'' ⟨oe, s2.extBut _ _ ne hoe, hce⟩ fun c o c1 c2 c3 c4 x => s2.extBut _ _ c1 (kk c o c1 c2 c3 c4 x)
  refine wpAny_bind ?_
  simp only [List.zipIdx_cons, List.zipIdx_nil, List.forIn_cons, List.forIn_nil]
  refine wpAny_bind (wpAny_bind (wpAny_onRaise ?_))
  show wpAny _ _ (Builtin.SmallTypes.nextOf (.ref i1) >>= _) _ _ _
  cases hx : xs[n1]? with
  | none =>
    refine wpAny_bind (nextS_end hh (h1.ext ea D.i1z) (hl1.ext ea D.l1z) hx fun hb e sb he => ?_)
    exact out hb e (sb _ _ D.i1z.symm za) (fun c o c1 c2 c3 c4 x => sb _ _ c3 (ea _ _ c1 x)) he (.inl hx) fun h'' a b => hE (.inl hx) h'' e b a
  | some x =>
    refine wpAny_bind (nextS_item (h1.ext ea D.i1z) (hl1.ext ea D.l1z) hx fun hb ib sb => wpAny_pure ?_)
    have eb := sb.extBut
    have tb : IsPair hb TO a b := eb _ _ D.TOi1 (ea _ _ D.TOz hTO)
    refine wpAny_bind (wpAny_seqItems tb rfl (wpAny_bind (wpAny_updateSeq_pair tb fun hc tc sc => ?_)))
    replace tc : IsPair hc TO x b := tc
    have ec := sc.extBut
    refine wpAny_bind (wpAny_letGo (wpAny_pure (wpAny_bind (wpAny_bind (wpAny_onRaise ?_)))))
    show wpAny _ _ (Builtin.SmallTypes.nextOf (.ref i2) >>= _) _ _ _
    have i2c := ((h2.ext ea D.i2z).ext eb D.i12.symm).ext ec D.TOi2.symm
    have l2c := ((hl2.ext ea D.l2z).ext eb D.l2i1).ext ec D.l2TO
    cases hy : ys[n2]? with
    | none =>
      refine wpAny_bind (nextS_end hh i2c l2c hy fun hd e sd he => ?_)
      exact out hd e (sd _ _ D.i2z.symm (ec _ _ D.TOz.symm (eb _ _ D.i1z.symm za))) (fun c o c1 c2 c3 c4 x => sd _ _ c4 (ec _ _ c2 (eb _ _ c3 (ea _ _ c1 x)))) he (.inr hy) fun h'' a b => hE (.inr hy) h'' e b a
    | some y =>
      refine wpAny_bind (nextS_item i2c l2c hy fun hd id sd => wpAny_pure ?_)
      have ed := sd.extBut
      have td : IsPair hd TO x b := ed _ _ D.TOi2 tc
      refine wpAny_bind (wpAny_seqItems td rfl (wpAny_bind (wpAny_updateSeq_pair td fun he te se => ?_)))
      replace te : IsPair he TO x y := te
      have ee := se.extBut
      refine wpAny_bind (wpAny_letGo (wpAny_pure (wpAny_pure (wpAny_bind (wpAny_seqItems te rfl (wpAny_bind (wpAny_newTuple ?_)))))))
      have hsz : he.objs.size = s.heap.objs.size := by rw [se.1, sd.1, sc.1, sb.1, sa.1]
      have ze : IsZip he z TI TO .ellipsis := ee _ _ D.TOz.symm (ed _ _ D.i2z.symm (ec _ _ D.TOz.symm (eb _ _ D.i1z.symm za)))
      have i1e := (((ib.ext ec D.TOi1.symm).ext ed D.i12).ext ee D.TOi1.symm)
      have i2e := id.ext ee D.TOi2.symm
      have zl : z ≠ he.objs.size := Nat.ne_of_lt (Heap.lt_size ze)
      show wpAny _ _ (Builtin.SmallTypes.ownedTupleHandOut (.ref z) (.ref he.objs.size) >>= _) _ _ _
      refine wpAny_bind ?_
      unfold Builtin.SmallTypes.ownedTupleHandOut
      have zf : IsZip (he.push { cls := .type "tuple", data := .seq #[x, y] }) z TI TO .ellipsis := Heap.get?_push_of_some _ ze
      refine wpAny_bind (wpAny_setField_rec zf (by simp) fun hg zg sg => ?_)
      replace zg : IsZip hg z TI TO (rawInt he.objs.size) := zg
      refine wpAny_setField_rec zg (by simp) fun hi zi si => ?_
      replace zi : IsZip hi z TI TO (rawInt he.objs.size) := zi
      have up : ∀ c o, c ≠ z → he.get? c = some o → hi.get? c = some o := fun c o c1 q => si.extBut _ _ c1 (sg.extBut _ _ c1 (Heap.get?_push_of_some _ q))
      have pT : IsPair hi he.objs.size x y := si.extBut _ _ zl.symm (sg.extBut _ _ zl.symm (Heap.get?_push_size _ rfl))
      refine wpAny_pure ⟨_, rfl, ?_⟩
      show Q (.ref he.objs.size) _
      rw [hsz] at zi pT ⊢
      exact hQ x y hi hx hy zi (up _ _ D.TOz te) (i1e.at fun o q => up _ o D.i1z q) (i2e.at fun o q => up _ o D.i2z q) pT fun c o c1 c2 c3 c4 q => up c o c1 (ee _ _ c2 (ed _ _ c4 (ec _ _ c2 (eb _ _ c3 (ea _ _ c1 q)))))
theorem pyNext_zipS {z TI TO i1 i2 l1 l2 : Addr} {n1 n2 : Nat} {xs ys : Array Value} {a b : Value} {Q : Option Value → Shared → Prop} (hh : A.handled = none) (D : ZipApart z TI TO i1 i2 l1 l2)
    (hz : IsZip s.heap z TI TO .none) (hTI : IsPair s.heap TI (.ref i1) (.ref i2)) (hTO : IsPair s.heap TO a b)
    (h1 : SIt k s.heap i1 l1 n1) (h2 : SIt kb s.heap i2 l2 n2) (hl1 : SSq k s.heap l1 xs) (hl2 : SSq kb s.heap l2 ys)
    (hQ : ∀ x y h', xs[n1]? = some x → ys[n2]? = some y → IsZip h' z TI TO (rawInt s.heap.objs.size) → IsPair h' TO x y → SIt k h' i1 l1 (n1 + 1) → SIt kb h' i2 l2 (n2 + 1) → IsPair h' s.heap.objs.size x y →
      (∀ c o, c ≠ z → c ≠ TO → c ≠ i1 → c ≠ i2 → s.heap.get? c = some o → h'.get? c = some o) → Q (some (.ref s.heap.objs.size)) { s with heap := h' })
    (hN : xs[n1]? = none ∨ ys[n2]? = none → ∀ h', (∀ c o, c ≠ z → c ≠ TO → c ≠ i1 → c ≠ i2 → s.heap.get? c = some o → h'.get? c = some o) → Q none { s with heap := h' }) :
    wpAny (model prog w) A (pyNext (.ref z)) Q E s := by
  have hT : s.TypeIs (.ref z) "zip" := ⟨_, hz, rfl⟩
  unfold pyNext
  refine wpAny_bind (wpAny_attempt (wpAny_callSpecial?_slot (name := Str.ofString "__next__") hT F.slot_zip_next (wpAny_call_entry F.slot_zip_next hT F.entry_zip_next
    (zipS_next hh D hz hTI hTO h1 h2 hl1 hl2 (fun x y h' a1 a2 a3 a4 a5 a6 a7 a8 => wpAny_pure (hQ x y h' a1 a2 a3 a4 a5 a6 a7 a8)) (fun hn h' e hk he => ?_)) (F.args_zip_next_1 _))))
  obtain ⟨o, ho, hc⟩ := he
  exact wpAny_bind (wpAny_isInstance (T := "StopIteration") (b := true) ⟨o, ho, hc⟩ isSubtype_stop (wpAny_pure (hN hn _ hk)))
end
/-! ### zip(a, b) is made -/
abbrev zS1 (h : Heap) (k : Bool) (l1 : Addr) : Heap := h.push (itO k l1)
abbrev zS2 (h : Heap) (k kb : Bool) (l1 l2 : Addr) : Heap := (zS1 h k l1).push (itO kb l2)
abbrev zS3 (h : Heap) (k kb : Bool) (l1 l2 : Addr) : Heap := (zS2 h k kb l1 l2).push { cls := .type "tuple", data := .seq #[.ref h.objs.size, .ref (zS1 h k l1).objs.size] }
abbrev zS4 (h : Heap) (k kb : Bool) (l1 l2 : Addr) : Heap := (zS3 h k kb l1 l2).push { cls := .type "tuple", data := .seq #[.none, .none] }
abbrev zS5 (h : Heap) (k kb : Bool) (l1 l2 : Addr) : Heap := (zS4 h k kb l1 l2).push { cls := .type "zip", data := .fields #[.none, .bool false, .bool false, .ref (zS2 h k kb l1 l2).objs.size, .ref (zS3 h k kb l1 l2).objs.size] }
theorem meets_zipS (k kb : Bool) (l1 l2 : Addr) (xs ys : Array Value) :
    Meets (Builtin.«zip.__new__» ⟨[.type "zip", .ref l1, .ref l2], []⟩) (fun _ R s => SSq k s.heap l1 xs ∧ SSq kb s.heap l2 ys ∧ R (.ok (.ret (.ref (zS4 s.heap k kb l1 l2).objs.size))) { s with heap := zS5 s.heap k kb l1 l2 }) :=
  .of_wp fun prog w A R s h => by
    obtain ⟨hp, g, d, tk, os⟩ := s
    obtain ⟨hl1, hl2, h⟩ := h
    have hsub := sub_zip
    have a1 : SSq k (Shared.heap ⟨hp, g, d, tk, os⟩) l1 xs := hl1
    have a2 : SSq kb (Shared.heap ⟨hp.push (itO k l1), g, d, tk, os⟩) l2 ys := SSq.push hl2 _
    wp_walk using pyIterS a1, pyIterS a2
    exact ⟨_, rfl, h⟩
section
variable {prog : Program} {w : World} {A : Around} {E : Value → Shared → Prop} {s : Shared} {k kb : Bool}
theorem call_zipS {l1 l2 : Addr} {xs ys : Array Value} {Q : Value → Shared → Prop} (hl1 : SSq k s.heap l1 xs) (hl2 : SSq kb s.heap l2 ys)
    (h : ∀ h', IsZip h' (s.heap.objs.size + 4) (s.heap.objs.size + 2) (s.heap.objs.size + 3) .none → IsPair h' (s.heap.objs.size + 2) (.ref s.heap.objs.size) (.ref (s.heap.objs.size + 1)) →
      IsPair h' (s.heap.objs.size + 3) .none .none → SIt k h' s.heap.objs.size l1 0 → SIt kb h' (s.heap.objs.size + 1) l2 0 → (∀ c o, s.heap.get? c = some o → h'.get? c = some o) → Q (.ref (s.heap.objs.size + 4)) { s with heap := h' }) :
    wpAny (model prog w) A (call (.type "zip") [.ref l1, .ref l2]) Q E s := by
  refine callType_new F.called_zip (by decide) (F.typeCall_zip_2 _ _) (F.newCall_zip_2 _ _) (fun obj => F.args_object_init_3 obj _ _) F.entry_zip_new (meets_zipS k kb l1 l2 xs ys) ⟨hl1, hl2, ?_⟩
  have z1 : (zS1 s.heap k l1).objs.size = s.heap.objs.size + 1 := Heap.size_push ..
  have z2 : (zS2 s.heap k kb l1 l2).objs.size = s.heap.objs.size + 2 := by rw [Heap.size_push, z1]
  have z3 : (zS3 s.heap k kb l1 l2).objs.size = s.heap.objs.size + 3 := by rw [Heap.size_push, z2]
  have z4 : (zS4 s.heap k kb l1 l2).objs.size = s.heap.objs.size + 4 := by rw [Heap.size_push, z3]
  have g5 : (zS5 s.heap k kb l1 l2).get? (zS4 s.heap k kb l1 l2).objs.size = some _ := Heap.get?_push_size _ rfl
  have g4 : (zS5 s.heap k kb l1 l2).get? (zS3 s.heap k kb l1 l2).objs.size = some _ := Heap.get?_push_of_some _ (Heap.get?_push_size _ rfl)
  have g3 : (zS5 s.heap k kb l1 l2).get? (zS2 s.heap k kb l1 l2).objs.size = some _ := Heap.get?_push_of_some _ (Heap.get?_push_of_some _ (Heap.get?_push_size _ rfl))
  have n2 : ∀ (kk : Bool) (l : Addr), (itO kk l).isFreed = false := fun kk l => by cases kk <;> rfl
  have g2 : (zS5 s.heap k kb l1 l2).get? (zS1 s.heap k l1).objs.size = some (itO kb l2) := Heap.get?_push_of_some _ (Heap.get?_push_of_some _ (Heap.get?_push_of_some _ (Heap.get?_push_size _ (n2 _ _))))
  have g1 : (zS5 s.heap k kb l1 l2).get? s.heap.objs.size = some (itO k l1) := Heap.get?_push_of_some _ (Heap.get?_push_of_some _ (Heap.get?_push_of_some _ (Heap.get?_push_of_some _ (Heap.get?_push_size _ (n2 _ _)))))
  show _ ∧ _
  rw [z2, z3, z4] at g5
  rw [z1, z2] at g3
  rw [z3] at g4
  rw [z1] at g2
  rw [z4]
  exact ⟨⟨_, g5, rfl⟩, h _ g5 g3 g4 (.of g1) (.of g2) fun c o x =>
    Heap.get?_push_of_some _ (Heap.get?_push_of_some _ (Heap.get?_push_of_some _ (Heap.get?_push_of_some _ (Heap.get?_push_of_some _ x))))⟩
end
end DL
set_option Elab.async false
set_option linter.all false
set_option maxRecDepth 100000
/-! DL21: iterators over trees; comprehensions and loops over any of them. -/
namespace DL
open PySem PySem.Spec L2
open PyProof.Rows hiding St

/-! ### zip at the hand layer -/
def SqS (k : Bool) (K : PySem.W.Frag) (H : Hp) (a : Addr) (xs : List V) : Prop := match k with
  | true => SqT K H a xs
  | false => SqL K H a xs
section
variable {X : Cx} {pins : List (Addr × Obj)} {σ : L2.St} {H : Hp} {s : Shared} {k : Bool} {a : Addr} {xs ys : List V}
theorem inv_seqS (I : Inv X pins σ H s) (h : SqS k X.K H a xs) : ∃ its : List Value, Vals xs its ∧ SSq k s.heap a its.toArray := by
  cases k with
  | true =>
    obtain ⟨its, r, p, _⟩ := I.tuple h
    exact ⟨its, r, p⟩
  | false =>
    obtain ⟨its, r, p, _⟩ := I.list h
    exact ⟨its, r, p.isList⟩
theorem inv_seqS_inj (I : Inv X pins σ H s) (h : SqS k X.K H a xs) (h' : SqS k X.K H a ys) : xs = ys := by
  cases k with
  | true => exact I.tuple_inj h h'
  | false => exact I.list_inj h h'
end
def ItzS (K : PySem.W.Frag) (k kb : Bool) (a b : Addr) : It :=
  ⟨fun i H => ∃ (xs ys : List V) (x y : V), SqS k K H a xs ∧ SqS kb K H b ys ∧ xs[i]? = some x ∧ ys[i]? = some y,
    fun i H v H' => ∃ T x y, v = .ref T ∧ H T = none ∧ H' = upd H T (.tup [x, y]) ∧ (∀ xs, SqS k K H a xs → xs[i]? = some x) ∧ ∀ ys, SqS kb K H b ys → ys[i]? = some y,
    fun i H => ∃ xs ys : List V, SqS k K H a xs ∧ SqS kb K H b ys ∧ (xs.length ≤ i ∨ ys.length ≤ i)⟩
theorem turn_zipS {P : Program} {w : World} {K : PySem.W.Frag} {elts : List Expr} {kk : Nat} {tpos : Pos} {k kb : Bool} {a b z TI TO i1 i2 : Addr} (D : ZipApart z TI TO i1 i2 a b) :
    Turn P w K (.Tuple elts kk tpos) (ItzS K k kb a b) [z, TI, TO, i1, i2] z (fun i h => IsZip h z TI TO .none ∧ IsPair h TI (.ref i1) (.ref i2) ∧ (∃ x y, IsPair h TO x y) ∧ SIt k h i1 a i ∧ SIt kb h i2 b i) where
  mem := by simp
  obj := fun i h st c hc => by
    obtain ⟨hz, hTI, ⟨x, y, hTO⟩, h1, h2⟩ := st
    simp only [List.mem_cons, List.not_mem_nil, or_false] at hc
    rcases hc with rfl | rfl | rfl | rfl | rfl
    · exact ⟨_, hz, fun v q => nomatch q⟩
    · exact ⟨_, hTI, fun v q => nomatch q⟩
    · exact ⟨_, hTO, fun v q => nomatch q⟩
    · exact h1.obj
    · exact h2.obj
  keep := fun i h h' st kp => by
    obtain ⟨hz, hTI, ⟨x, y, hTO⟩, h1, h2⟩ := st
    exact ⟨kp z (by simp) _ hz, kp TI (by simp) _ hTI, ⟨x, y, kp TO (by simp) _ hTO⟩, h1.at fun o q => kp i1 (by simp) o q, h2.at fun o q => kp i2 (by simp) o q⟩
  item := by
    intro X hP hw hK hc i pins s σ H E I hf st hg
    subst hP hw hK
    obtain ⟨hz, hTI, ⟨x0, y0, hTO⟩, h1, h2⟩ := st
    obtain ⟨xs, ys, x, y, qx, qy, hx, hy⟩ := hg
    obtain ⟨its, rv, p⟩ := inv_seqS I qx
    obtain ⟨its2, rv2, p2⟩ := inv_seqS I qy
    obtain ⟨u, hu, ru⟩ := rv.get hx
    obtain ⟨u2, hu2, ru2⟩ := rv2.get hy
    have hzl : z < s.heap.objs.size := Heap.lt_size hz
    refine pyNext_zipS (I.ok.hd hc) D hz hTI hTO h1 h2 p p2 (fun u' u2' h' e1 e2 z' TO' h1' h2' hT hk => ?_) (fun q => ?_)
    · have e1' : some u = some u' := hu.symm.trans (by simpa using e1)
      have e2' : some u2 = some u2' := hu2.symm.trans (by simpa using e2)
      cases e1'
      cases e2'
      refine ⟨_, rfl, wpAny_letOwnedTupleGo_zip (s := { s with heap := h' }) z' fun h'' z'' sb => ?_⟩
      have hT2 : h''.get? s.heap.objs.size = some { cls := .type "tuple", data := .seq #[u, u2] } := (sb.2 _ (Nat.ne_of_gt hzl)).trans hT
      have new : ObjOk X.prog X.w (upd H s.heap.objs.size (.tup [x, y])) h'' s.heap.objs.size (.tup [x, y]) := ⟨by show 2 ≤ sizeLine; decide, [u, u2], .cons ru (.cons ru2 .nil), ⟨_, hT2, rfl, _, rfl⟩⟩
      have kp : ∀ c o, c ∉ [z, TI, TO, i1, i2] → s.heap.get? c = some o → h''.get? c = some o := fun c o hb q => by
        simp only [List.mem_cons, List.not_mem_nil, or_false, not_or] at hb
        exact (sb.2 c hb.1).trans (hk c o hb.1 hb.2.2.1 hb.2.2.2.1 hb.2.2.2.2 q)
      have I1 : Inv X pins σ (upd H s.heap.objs.size (.tup [x, y])) { s with heap := h'' } := I.turnedNew (t' := s.toks) (ch := [z, TI, TO, i1, i2]) kp hf (Nat.le_refl _) new
      refine ⟨.ref s.heap.objs.size, _, I1, rfl, ⟨_, x, y, rfl, I.hok.fresh (Nat.le_refl _), rfl, fun l hl => by rw [inv_seqS_inj I hl qx]; exact hx, fun l hl => by rw [inv_seqS_inj I hl qy]; exact hy⟩, ⟨z'', (sb.2 _ D.TIz).trans (hk _ _ D.TIz D.TITO D.TIi1 D.TIi2 hTI), ⟨u, u2, (sb.2 _ D.TOz).trans TO'⟩, h1'.at fun o q => (sb.2 _ D.i1z).trans q, h2'.at fun o q => (sb.2 _ D.i2z).trans q⟩, fun c hcm => ?_⟩
      have hlt : c < s.heap.objs.size := by
        simp only [List.mem_cons, List.not_mem_nil, or_false] at hcm
        rcases hcm with rfl | rfl | rfl | rfl | rfl
        · exact hzl
        · exact Heap.lt_size hTI
        · exact Heap.lt_size hTO
        · obtain ⟨_, e1, _⟩ := h1.obj
          exact Heap.lt_size e1
        · obtain ⟨_, e2, _⟩ := h2.obj
          exact Heap.lt_size e2
      rw [upd_ne (Nat.ne_of_lt hlt)]
      exact (hf c hcm).1
    · exfalso
      rcases q with q | q
      · rw [show its.toArray[i]? = some u by simpa using hu] at q
        cases q
      · rw [show its2.toArray[i]? = some u2 by simpa using hu2] at q
        cases q
  done := by
    intro X hP hw hK hc i pins s σ H E I hf st hg
    subst hP hw hK
    obtain ⟨hz, hTI, ⟨x0, y0, hTO⟩, h1, h2⟩ := st
    obtain ⟨xs, ys, qx, qy, hend⟩ := hg
    obtain ⟨its, rv, p⟩ := inv_seqS I qx
    obtain ⟨its2, rv2, p2⟩ := inv_seqS I qy
    have l1 := rv.length
    have l2 := rv2.length
    refine pyNext_zipS (I.ok.hd hc) D hz hTI hTO h1 h2 p p2 (fun u' u2' h' e1 e2 z' TO' h1' h2' hT hk => ?_) (fun q h' hk => ?_)
    · exfalso
      have e1' := (Array.getElem?_eq_some_iff.mp e1).1
      have e2' := (Array.getElem?_eq_some_iff.mp e2).1
      simp only [List.size_toArray] at e1' e2'
      omega
    · exact ⟨rfl, I.turnedL (t' := s.toks) (ch := [z, TI, TO, i1, i2]) (fun c o hb q => by
        simp only [List.mem_cons, List.not_mem_nil, or_false, not_or] at hb
        exact hk c o hb.1 hb.2.2.1 hb.2.2.2.1 hb.2.2.2.2 q) hf⟩
  self := fun A i s Q E st h => wpAny_pyIter_zip st.1 h
def iZipS (K : PySem.W.Frag) (ta : TA) : TI := fun σ H R => ta σ H fun vs H1 => ∃ (k kb : Bool) (a b : Addr) (xs ys : List V), vs = [.ref a, .ref b] ∧ SqS k K H1 a xs ∧ SqS kb K H1 b ys ∧ R (ItzS K k kb a b) H1
theorem pi_zipS {X : Cx} {e e2 : Expr} {ta : TA} {p pos tpos : Pos} {elts : List Expr} {kk : Nat} (hg : Gl X "zip") (hm : X.mg "zip" = none) (ha : PA X [e, e2] ta)
    (hs : starEach [e, e2] X.env = (false, eval e X.env) :: starEach [e2] X.env := by rfl) (hpl : (backTo pos (starEach [e2] X.env)).any (·.1) = false := by rfl) :
    PI X (.Tuple elts kk tpos) (.Call (.Name "zip" p) [e, e2] [] pos) (iZipS X.K ta) := by
  refine ⟨fun pins s σ H R I h => ?_⟩
  refine Call_ (ld_blt I hg hm PyProof.Rows.boot_zip (PyProof.Rows.callWith_type1 (thn (ha.run pos pins s σ H _ I h) fun us s1 ⟨vs, H1, I1, r1, q1⟩ => ?_) hs hpl))
  obtain ⟨k, kb, a, b, xs, ys, ex, qx, qy, q⟩ := q1
  subst ex
  cases r1 with
  | cons r rr =>
    cases rr with
    | cons r' rr =>
      cases rr
      cases r
      cases r'
      obtain ⟨its, rv, p1⟩ := inv_seqS I1 qx
      obtain ⟨its2, rv2, p2⟩ := inv_seqS I1 qy
      have fresh5 : ∀ c, c ∈ [s1.heap.objs.size + 4, s1.heap.objs.size + 2, s1.heap.objs.size + 3, s1.heap.objs.size, s1.heap.objs.size + 1] → FpOk X pins H1 c := fun c hcm => by
        have hle : s1.heap.objs.size ≤ c := by
          simp only [List.mem_cons, List.not_mem_nil, or_false] at hcm
          rcases hcm with z | z | z | z | z <;> (subst z; show s1.heap.objs.size ≤ _; first | exact Nat.le_refl _ | exact Nat.le_add_right _ _)
        exact I1.fpOk hle (I1.hok.fresh hle)
      refine call_zipS p1 p2 fun h' hz hTI hTO h1 h2 hk => wpAny_pyIter_zip hz ?_
      exact ⟨s1.heap.objs.size + 4, [s1.heap.objs.size + 4, s1.heap.objs.size + 2, s1.heap.objs.size + 3, s1.heap.objs.size, s1.heap.objs.size + 1], _, _, H1, rfl, I1.kept (t' := s1.toks) hk, turn_zipS (PySem.W.ktu_apart s1.heap.objs.size a b p1.lt p2.lt), ⟨hz, hTI, ⟨_, _, hTO⟩, h1, h2⟩, fresh5, q⟩

/-! ### iterators over trees -/
/-- what lies at ps lies there as it did -/
def Sub (ps : List Addr) (m m' : Mu) : Prop := ∀ p ∈ ps, ∀ o, At m p o → At m' p o
theorem Sub.nil {m m' : Mu} : Sub [] m m' := fun _ h => nomatch h
theorem Sub.refl {ps : List Addr} {m : Mu} : Sub ps m m := fun _ _ _ h => h
theorem Sub.trans {ps : List Addr} {m m1 m2 : Mu} (a : Sub ps m m1) (b : Sub ps m1 m2) : Sub ps m m2 := fun p hp o h => b p hp o (a p hp o h)
theorem Sub.cons {ps : List Addr} {m : Mu} {q : Addr × MO} : Sub ps m (q :: m) := fun _ _ _ h => .tail h
/-- it yields xs, one after the other, at any later heap -/
structure IsIt (J : It) (ps : List Addr) (m : Mu) (H : Hp) (xs : List D) : Prop where
  go : ∀ i m' H', Stp (dom m) H (dom m') H' → MutR m' H' → Sub ps m m' → i < xs.length → J.go i H'
  yld : ∀ i m' H', Stp (dom m) H (dom m') H' → MutR m' H' → Sub ps m m' → ∀ v H2, J.yld i H' v H2 → i < xs.length → ∃ d, xs[i]? = some d ∧ Stp (dom m') H' (dom m') H2 ∧ MutR m' H2 ∧ Rep (dom m') H2 d v
  stop : ∀ m' H', Stp (dom m) H (dom m') H' → MutR m' H' → Sub ps m m' → J.stop xs.length H'
/-- a sequence: its items, and where it lies if it is mutable -/
inductive SeqM : D → Mu → List Addr → List D → Prop
  | lst {m : Mu} {xs : List D} : SeqM (.lst xs) m [] xs
  | tup {m : Mu} {xs : List D} : SeqM (.tup xs) m [] xs
  | mutb {m : Mu} {p : Addr} {xs : List D} (h : At m p (.lst xs)) : SeqM (.ref p) m [p] xs
theorem SeqM.at {K : PySem.W.Frag} {d : D} {m : Mu} {ps : List Addr} {xs : List D} {H : Hp} {v : V} (sm : SeqM d m ps xs) (rp : Rep (dom m) H d v) (mu : MutR m H) :
    ∃ (k : Bool) (a : Addr), v = .ref a ∧ ∀ m' H', Stp (dom m) H (dom m') H' → MutR m' H' → Sub ps m m' → ∃ vs, SqS k K H' a vs ∧ Reps (dom m') H' xs vs := by
  cases sm with
  | lst =>
    cases rp with
    | @lst a _ vs mm hh rs => exact ⟨false, a, rfl, fun m' H' st mu' _ => ⟨vs, rd_l (st.rd mm hh).1, rs.mono st⟩⟩
  | tup =>
    cases rp with
    | @tup a _ vs mm hh rs => exact ⟨true, a, rfl, fun m' H' st mu' _ => ⟨vs, rd_t (st.rd mm hh).1, rs.mono st⟩⟩
  | @mutb _ p _ h =>
    cases rp
    refine ⟨false, p, rfl, fun m' H' st mu' sb => ?_⟩
    have q := (sb p (List.mem_cons_self ..) _ h).rep mu'
    cases q with
    | lst hh rs => exact ⟨_, SqL.of hh, rs⟩
theorem Reps.lt {M : Addr → Prop} {H : Hp} {xs : List D} {vs : List V} (r : Reps M H xs vs) {i : Nat} (h : i < xs.length) : ∃ v, vs[i]? = some v := ⟨vs[i]'(by rw [← r.length]; exact h), by simp⟩
def Wi (W : WX) (E : ET) (wi : TI) (r : Rho) (m : Mu) (KI : List D → List Addr → Mu → Prop) : Prop := ∀ s H R, EnvR r m s H → Rz W E m H →
  (∀ J xs ps m' H', Stp (dom m) H (dom m') H' → MutR m' H' → IsIt J ps m' H' xs → KI xs ps m' → R J H') → wi s H R
section
variable {W : WX} {E : ET} {r : Rho} {m : Mu} {KI : List D → List Addr → Mu → Prop} {G : Gx} {te : TE} {ta : TA}
theorem wi_seq (h : We W E te r m fun d m1 => ∃ ps xs, SeqM d m1 ps xs ∧ KI xs ps m1) : Wi W E (iSeq G.K te) r m KI := fun s H R e z g =>
  h s H _ e z fun d m1 v H1 s1 mu1 r1 ⟨ps, xs, sm, k⟩ => by
    obtain ⟨kk, a, rfl, q⟩ := sm.at (K := G.K) r1 mu1
    cases kk with
    | false =>
      refine .inl ⟨a, rfl, (q m1 H1 (Stp.refl _ _) mu1 Sub.refl).imp fun _ x => x.1, g _ xs ps m1 H1 s1 mu1 ⟨fun i m' H' st mu' sb hi => ?_, fun i m' H' st mu' sb v H2 y hi => ?_, fun m' H' st mu' sb => ?_⟩ k⟩
      · obtain ⟨vs, sq, rs⟩ := q m' H' st mu' sb
        obtain ⟨v, hv⟩ := rs.lt hi
        exact ⟨vs, v, sq, hv⟩
      · obtain ⟨vs, sq, rs⟩ := q m' H' st mu' sb
        obtain ⟨rfl, y⟩ := y
        obtain ⟨d, h1, h2⟩ := rs.getV (y vs sq)
        exact ⟨d, h1, Stp.refl _ _, mu', h2⟩
      · obtain ⟨vs, sq, rs⟩ := q m' H' st mu' sb
        exact ⟨vs, sq, by rw [rs.length]; exact Nat.le_refl _⟩
    | true =>
      refine .inr ⟨a, rfl, (q m1 H1 (Stp.refl _ _) mu1 Sub.refl).imp fun _ x => x.1, g _ xs ps m1 H1 s1 mu1 ⟨fun i m' H' st mu' sb hi => ?_, fun i m' H' st mu' sb v H2 y hi => ?_, fun m' H' st mu' sb => ?_⟩ k⟩
      · obtain ⟨vs, sq, rs⟩ := q m' H' st mu' sb
        obtain ⟨v, hv⟩ := rs.lt hi
        exact ⟨vs, v, sq, hv⟩
      · obtain ⟨vs, sq, rs⟩ := q m' H' st mu' sb
        obtain ⟨rfl, y⟩ := y
        obtain ⟨d, h1, h2⟩ := rs.getV (y vs sq)
        exact ⟨d, h1, Stp.refl _ _, mu', h2⟩
      · obtain ⟨vs, sq, rs⟩ := q m' H' st mu' sb
        exact ⟨vs, sq, by rw [rs.length]; exact Nat.le_refl _⟩
/-- lo, lo + 1, .., n of them -/
def ran (lo : Int) (n : Nat) : List D := (List.range n).map fun (i : Nat) => D.int (lo + (i : Int))
theorem ran_len {lo : Int} {n : Nat} : (ran lo n).length = n := by simp [ran]
theorem ran_get {lo : Int} {n i : Nat} (h : i < n) : (ran lo n)[i]? = some (.int (lo + (i : Int))) := by simp [ran, h]
theorem isIt_ran {lo : Int} {n : Nat} {H : Hp} : IsIt (Itr lo n) [] m H (ran lo n) :=
  ⟨fun i m' H' _ _ _ hi => by rw [ran_len] at hi; exact hi, fun i m' H' _ mu' _ v H2 y hi => by
    rw [ran_len] at hi
    obtain ⟨rfl, rfl⟩ := y
    exact ⟨_, ran_get hi, Stp.refl _ _, mu', .int _⟩, fun m' H' _ _ _ => by rw [ran_len]; exact Nat.le_refl _⟩
theorem wi_rng1 (h : Wa W E ta r m fun ds m1 => ∃ j : Int, ds = [.int j] ∧ (-(2 ^ 62) ≤ j ∧ j < 2 ^ 62) ∧ KI (ran 0 j.toNat) [] m1) : Wi W E (iRng1 ta) r m KI := fun s H R e z g =>
  h s H _ e z fun ds m1 vs H1 s1 mu1 r1 ⟨j, hd, ⟨b1, b2⟩, k⟩ => by
    subst hd
    cases r1 with
    | cons ra t =>
      cases t
      cases ra
      exact ⟨j, rfl, b1, b2, g _ _ [] m1 H1 s1 mu1 isIt_ran k⟩
theorem wi_rng2 (h : Wa W E ta r m fun ds m1 => ∃ l j : Int, ds = [.int l, .int j] ∧ (-(2 ^ 62) ≤ l ∧ l < 2 ^ 62 ∧ -(2 ^ 62) ≤ j ∧ j < 2 ^ 62) ∧ KI (ran l (j - l).toNat) [] m1) : Wi W E (iRng2 ta) r m KI := fun s H R e z g =>
  h s H _ e z fun ds m1 vs H1 s1 mu1 r1 ⟨l, j, hd, b, k⟩ => by
    subst hd
    cases r1 with
    | cons ra t =>
      cases t with
      | cons rb t =>
        cases t
        cases ra
        cases rb
        exact ⟨l, j, rfl, b, g _ _ [] m1 H1 s1 mu1 isIt_ran k⟩
def zipD (xs ys : List D) : List D := List.zipWith (fun x y => D.tup [x, y]) xs ys
theorem wi_zip (h : Wa W E ta r m fun ds m1 => ∃ x y ps qs xs ys, ds = [x, y] ∧ SeqM x m1 ps xs ∧ SeqM y m1 qs ys ∧ KI (zipD xs ys) (ps ++ qs) m1) : Wi W E (iZipS G.K ta) r m KI := fun s H R e z g =>
  h s H _ e z fun ds m1 vs H1 s1 mu1 r1 ⟨x, y, ps, qs, xs, ys, hd, sx, sy, k⟩ => by
    subst hd
    cases r1 with
    | cons ra t =>
      cases t with
      | cons rb t =>
        cases t
        obtain ⟨ka, a, rfl, qa⟩ := sx.at (K := G.K) ra mu1
        obtain ⟨kb, b, rfl, qb⟩ := sy.at (K := G.K) rb mu1
        have sl : ∀ {m' : Mu}, Sub (ps ++ qs) m1 m' → Sub ps m1 m' := fun h p hp => h p (List.mem_append_left _ hp)
        have sr : ∀ {m' : Mu}, Sub (ps ++ qs) m1 m' → Sub qs m1 m' := fun h p hp => h p (List.mem_append_right _ hp)
        obtain ⟨va, sa, _⟩ := qa m1 H1 (Stp.refl _ _) mu1 Sub.refl
        obtain ⟨vb, sb, _⟩ := qb m1 H1 (Stp.refl _ _) mu1 Sub.refl
        refine ⟨ka, kb, a, b, va, vb, rfl, sa, sb, g _ (zipD xs ys) (ps ++ qs) m1 H1 s1 mu1 ⟨fun i m' H' st mu' su hi => ?_, fun i m' H' st mu' su v H2 yl hi => ?_, fun m' H' st mu' su => ?_⟩ k⟩
        · obtain ⟨vs, sq, rs⟩ := qa m' H' st mu' (sl su)
          obtain ⟨ws, sq2, rs2⟩ := qb m' H' st mu' (sr su)
          have hl : i < xs.length ∧ i < ys.length := by simpa [zipD, Nat.lt_min] using hi
          obtain ⟨v, hv⟩ := rs.lt hl.1
          obtain ⟨w, hw⟩ := rs2.lt hl.2
          exact ⟨vs, ws, v, w, sq, sq2, hv, hw⟩
        · obtain ⟨vs, sq, rs⟩ := qa m' H' st mu' (sl su)
          obtain ⟨ws, sq2, rs2⟩ := qb m' H' st mu' (sr su)
          obtain ⟨T, x, y, rfl, hT, rfl, hx, hy⟩ := yl
          obtain ⟨dx, h1, h2⟩ := rs.getV (hx vs sq)
          obtain ⟨dy, h3, h4⟩ := rs2.getV (hy ws sq2)
          have st2 : Stp (dom m') H' (dom m') (upd H' T (.tup [x, y])) := Stp.new hT
          refine ⟨.tup [dx, dy], by simp [zipD, List.getElem?_zipWith, h1, h3], st2, mu'.new hT, .tup (fun zz => by obtain ⟨u, hu⟩ := mu'.there zz; rw [hT] at hu; cases hu) (.inl upd_same) (.cons (h2.mono st2) (.cons (h4.mono st2) .nil))⟩
        · obtain ⟨vs, sq, rs⟩ := qa m' H' st mu' (sl su)
          obtain ⟨ws, sq2, rs2⟩ := qb m' H' st mu' (sr su)
          refine ⟨vs, ws, sq, sq2, ?_⟩
          have : (zipD xs ys).length = min xs.length ys.length := by simp [zipD]
          rw [this, ← rs.length, ← rs2.length]
          omega
end

/-! ### what a comprehension's targets leave -/
theorem wipe_get {s : L2.St} {i : Nat} : ∀ {vs : List Nat}, (wipe s vs)[i]? = if i ∈ vs then (s[i]?).map fun _ => none else s[i]?
  | [] => by simp [wipe]
  | v :: vs => by
    show ((wipe s vs).set v none)[i]? = _
    rw [List.getElem?_set, wipe_length, wipe_get (vs := vs)]
    by_cases h : v = i
    · subst h
      by_cases hl : v < s.length <;> simp [hl]
    · have : ¬ i = v := fun e => h e.symm
      by_cases hm : i ∈ vs <;> simp [h, this, hm]
theorem wipe_wipe {s : L2.St} {vs : List Nat} : wipe (wipe s vs) vs = wipe s vs := List.ext_getElem? fun i => by
  rw [wipe_get, wipe_get]
  split <;> cases s[i]? <;> rfl
theorem wipe_set {s : L2.St} {vs : List Nat} {i : Nat} {x : Option V} (h : i ∈ vs) : wipe (s.set i x) vs = wipe s vs := List.ext_getElem? fun j => by
  rw [wipe_get, wipe_get]
  by_cases hj : j ∈ vs
  · rw [if_pos hj, if_pos hj, List.getElem?_set]
    by_cases e : i = j
    · subst e
      by_cases hl : i < s.length <;> simp [hl]
    · simp [e]
  · rw [if_neg hj, if_neg hj, List.getElem?_set_ne (fun e => hj (by subst e; exact h))]
structure GK (g : TG) (vs : List Nat) : Prop where
  keep : ∀ v σ H (Q Q' : L2.St → Hp → Prop), g v σ H Q → (∀ σ' H', wipe σ' vs = wipe σ vs → Q σ' H' → Q' σ' H') → g v σ H Q'
structure GKs (g : TGs) (vs : List Nat) : Prop where
  keep : ∀ v σ H (Q Q' : L2.St → Hp → Prop), g v σ H Q → (∀ σ' H', wipe σ' vs = wipe σ vs → Q σ' H' → Q' σ' H') → g v σ H Q'
theorem gk_name {i : Nat} {vs : List Nat} (h : vs.contains i = true) : GK (gName i) vs := ⟨fun v σ H Q Q' q k => k _ _ (wipe_set (by simpa using h)) q⟩
theorem gks_nil {vs : List Nat} : GKs gNil vs := ⟨fun v σ H Q Q' q k => ⟨q.1, k _ _ rfl q.2⟩⟩
theorem gks_cons {g : TG} {gs : TGs} {vs : List Nat} (h : GK g vs) (h' : GKs gs vs) : GKs (gCons g gs) vs := ⟨fun v σ H Q Q' q k => by
  obtain ⟨x, r, e, q⟩ := q
  exact ⟨x, r, e, h.keep _ _ _ _ _ q fun σ1 H1 e1 q1 => h'.keep _ _ _ _ _ q1 fun σ2 H2 e2 q2 => k _ _ (e2.trans e1) q2⟩⟩
theorem gk_tup {K : PySem.W.Frag} {n : Nat} {gs : TGs} {vs : List Nat} (h : GKs gs vs) : GK (gTup K n gs) vs := ⟨fun v σ H Q Q' q k => by
  obtain ⟨a, xs, e, sq, hl, q⟩ := q
  exact ⟨a, xs, e, sq, hl, h.keep _ _ _ _ _ q k⟩⟩
def wipeR (r : Rho) : List Nat → Rho
  | [] => r
  | v :: vs => (wipeR r vs).set v none
theorem ROs.wipe {M : Addr → Prop} {H : Hp} {r : Rho} {s : L2.St} (h : ROs M H r s) : ∀ vs, ROs M H (wipeR r vs) (L2.wipe s vs)
  | [] => h
  | v :: vs => (ROs.wipe h vs).set (.none _) v

/-! ### comprehensions -/
theorem rz_no {m : Mu} {H : Hp} : Rz wNo eNo m H := fun _ _ _ _ _ _ _ _ _ _ q => q.elim
section
variable {W : WX} {E : ET} {r : Rho} {m : Mu} {K : KT} {G : Gx} {te : TE} {tt : TT} {wi : TI} {g : TG} {vs : List Nat}
/-- by an invariant; the list that is made stays mutable -/
theorem we_lcI (gk : GK g vs) (h : Wi W E wi r m fun xs ps m1 => ∀ Dd, ¬ dom m1 Dd → ∃ I : Nat → Mu → Prop, I 0 ((Dd, .lst []) :: m1) ∧ (∀ i m', I i m' → Sub ps m1 m') ∧
      (∀ i x m', xs[i]? = some x → I i m' → Wg wNo eNo g x (wipeR r vs) m' fun r2 m2 => Wt wNo eNo tt r2 m2 fun b m3 =>
        (b = true → We wNo eNo te r2 m3 fun y m4 => ∃ acc m5, At m4 Dd (.lst acc) ∧ acc.length < 1000000 ∧ Put m4 Dd (.lst (acc ++ [y])) m5 ∧ I (i + 1) m5) ∧ (b = false → I (i + 1) m3)) ∧
      (∀ m', I xs.length m' → K (.ref Dd) m')) : We W E (tLc wi g tt te vs) r m K := fun s H Q e z gg =>
  h s H _ e z fun J xs ps m1 H1 s1 mu1 it q => fun Dd hD => by
    have nD : ¬ dom m1 Dd := fun zz => by
      obtain ⟨u, hu⟩ := mu1.there zz
      rw [hD] at hu
      cases hu
    obtain ⟨I, i0, isub, istep, iend⟩ := q Dd nD
    have st0 : Stp (dom m1) H1 (dom ((Dd, MO.lst []) :: m1)) (upd H1 Dd (.lst [])) := Stp.newM hD
    refine ⟨fun i n H' => n = xs.length - i ∧ i ≤ xs.length ∧ ∃ m', Stp (dom m1) H1 (dom m') H' ∧ MutR m' H' ∧ I i m', ⟨xs.length, rfl, Nat.zero_le _, _, st0, mu1.newM hD (.lst upd_same .nil), i0⟩, ?_⟩
    rintro i n H' ⟨rfl, hi, m', st, mu', hI⟩
    have sb := isub i m' hI
    by_cases hlt : i < xs.length
    · refine .inr ⟨it.go i m' H' st mu' sb hlt, fun H'' => ∃ m', Stp (dom m1) H1 (dom m') H'' ∧ MutR m' H'' ∧ I (i + 1) m', fun H'' q => ⟨_, by omega, rfl, hlt, q⟩, fun v H2 y => ?_⟩
      obtain ⟨d, hd, st2, mu2, rp⟩ := it.yld i m' H' st mu' sb v H2 y hlt
      have sta := s1.trans (st.trans st2)
      have e2 : EnvR (wipeR r vs) m' (wipe s vs) H2 := ⟨(e.env.mono sta).wipe vs, mu2⟩
      refine gk.keep _ _ _ _ _ (istep i d m' hd hI (wipe s vs) H2 v (fun σ2 H3 => ∃ r2 m2, Stp (dom m') H2 (dom m2) H3 ∧ EnvR r2 m2 σ2 H3 ∧ _) e2 rz_no rp fun r2 m2 s2 H3 a b c => ⟨r2, m2, a, b, c⟩) fun σ2 H3 hw ⟨r2, m2, st3, e3, q⟩ => ⟨hw.trans wipe_wipe, ?_⟩
      refine q σ2 H3 _ e3 rz_no fun b m3 H4 st4 mu4 q4 => ?_
      have stb := (st.trans st2).trans (st3.trans st4)
      cases b with
      | false =>
        rw [if_neg Bool.false_ne_true]
        exact ⟨m3, stb, mu4, q4.2 rfl⟩
      | true =>
        rw [if_pos rfl]
        refine q4.1 rfl σ2 H4 _ (e3.step st4 mu4) rz_no fun y m4 vy H5 st5 mu5 r5 q5 => ?_
        obtain ⟨acc, m5, ha, hl, hp, hI2⟩ := q5
        have at1 := ha.rep mu5
        cases at1 with
        | @lst _ ws hh rr =>
          have stp : ∀ o, Stp (dom m4) H5 (dom m5) (upd H5 Dd o) := fun o => hp.stp
          refine ⟨ws, hh, Nat.lt_of_lt_of_le (by rw [← rr.length]; exact hl) (by decide : 1000000 ≤ sizeLine), m5, stb.trans (st5.trans (stp _)), hp.mut mu5 (.lst upd_same (Reps.append (rr.mono (stp _)) (.cons (r5.mono (stp _)) .nil))), hI2⟩
    · have ei : i = xs.length := by omega
      subst ei
      exact .inl ⟨it.stop m' H' st mu' sb, gg _ m' _ H' (s1.trans st) mu' (.ref Dd) (iend m' hI)⟩
/-- a list just made, not written any more -/
theorem we_frz (h : We W E te r m fun d m' => ∃ p xs m1, d = .ref p ∧ m' = (p, .lst xs) :: m1 ∧ K (.lst xs) m1) : We W E te r m K := fun s H Q e z g =>
  h s H _ e z fun d m' v H1 s1 mu1 r1 ⟨p, xs, m1, hd, hm, k⟩ => by
    subst hd hm
    cases r1
    have ls : Stp (dom ((p, MO.lst xs) :: m1)) H1 (dom m1) H1 := Stp.less fun a z => dom_cons.mpr (.inr z)
    have q := (At.head (m := m1) (p := p) (o := .lst xs)).rep mu1
    cases q with
    | lst hh rr => exact g _ m1 _ H1 (s1.trans ls) mu1.drop (.lst mu1.notin (.inl hh) (rr.mono ls)) k
/-- the elements by a function of what the items stand for; those that pass are taken -/
theorem we_lcG {α : Type} (l : List α → Prop) (inj : α → D) (p : α → Bool) (f : α → D) (gk : GK g vs) (h : Wi W E wi r m fun xs ps m1 => ∃ zs : List α, xs = zs.map inj ∧ l zs ∧ Nat.ble zs.length 100000 = true ∧
      (∀ a ∈ zs, ∀ (q : Addr × MO), Wg wNo eNo g (inj a) (wipeR r vs) (q :: m1) fun r2 m2 => Wt wNo eNo tt r2 m2 fun b m3 => b = p a ∧
        (b = true → We wNo eNo te r2 m3 fun y m4 => y = f a ∧ m4 = q :: m1) ∧ (b = false → m3 = q :: m1)) ∧
      ∀ Dd, ¬ dom m1 Dd → K (.ref Dd) ((Dd, .lst ((zs.filter p).map f)) :: m1)) : We W E (tLc wi g tt te vs) r m K :=
  we_lcI gk fun s H R e z gg => h s H R e z fun J xs ps m1 H1 s1 mu1 it ⟨zs, hx, _, hlen, hel, hK⟩ => gg J xs ps m1 H1 s1 mu1 it fun Dd hD => by
    subst hx
    have hlen' := Nat.le_of_ble_eq_true hlen
    have hle : ∀ i, (((zs.take i).filter p).map f).length ≤ 100000 := fun i => by
      rw [List.length_map]
      exact Nat.le_trans (List.length_filter_le ..) (by rw [List.length_take]; omega)
    refine ⟨fun i m' => m' = (Dd, .lst (((zs.take i).filter p).map f)) :: m1, rfl, fun i m' e => by subst e; exact Sub.cons, fun i x m' hx e => ?_, fun m' e => ?_⟩
    · subst e
      rw [List.getElem?_map] at hx
      cases ha : zs[i]? with
      | none => rw [ha] at hx; cases hx
      | some a =>
        rw [ha] at hx
        cases hx
        have ex : zs.take (i + 1) = zs.take i ++ [a] := by
          rw [List.take_add_one, ha]
          rfl
        intro s2 H2 v Q e2 z2 rp2 g2
        refine hel a (List.mem_of_getElem? ha) _ s2 H2 v Q e2 z2 rp2 fun r3 m3 s3 H3 a3 b3 c3 => g2 r3 m3 s3 H3 a3 b3 ?_
        intro s4 H4 Q4 e4 z4 g4
        refine c3 s4 H4 Q4 e4 z4 fun b m5 H5 a5 b5 ⟨hb, ht, hf⟩ => g4 b m5 H5 a5 b5 ⟨fun hbt => ?_, fun hbf => ?_⟩
        · refine (ht hbt).imp fun y m6 ⟨e5, e6⟩ => ?_
          subst e5 e6
          have hp : p a = true := by rw [← hb]; exact hbt
          have e7 : ((zs.take (i + 1)).filter p).map f = ((zs.take i).filter p).map f ++ [f a] := by
            rw [ex, List.filter_append, List.map_append]
            simp [hp]
          refine ⟨_, _, .head, Nat.lt_of_le_of_lt (hle i) (by decide), .head, ?_⟩
          show _ = (Dd, MO.lst (((zs.take (i + 1)).filter p).map f)) :: m1
          rw [e7]
        · have hp : p a = false := by rw [← hb]; exact hbf
          have e7 : ((zs.take (i + 1)).filter p).map f = ((zs.take i).filter p).map f := by
            rw [ex, List.filter_append, List.map_append]
            simp [hp]
          show m5 = (Dd, MO.lst (((zs.take (i + 1)).filter p).map f)) :: m1
          rw [e7]
          exact hf hbf
    · subst e
      rw [List.length_map, List.take_length]
      exact hK Dd hD
theorem filter_tt {α : Type} {l : List α} : l.filter (fun _ => true) = l := List.filter_eq_self.mpr fun _ _ => rfl
theorem wt_yes {KB : Bool → Mu → Prop} (h : KB true m) : Wt W E tYes r m KB := fun s H Q e z g => g true m H (Stp.refl _ _) e.mu h
/-- an element's end; what a comprehension wants -/
structure LcL {α : Type} (f : α → D) (a : α) (y : D) (m0 m : Mu) : Prop where
  e : y = f a
  s : m = m0
structure LcS (len : Bool) (el k : Prop) : Prop where
  len : len = true
  el : el
  k : k
/-- without tests, the list fixed -/
theorem we_lcs {α : Type} (inj : α → D) (f : α → D) (gk : GK g vs) (h : Wi W E wi r m fun xs ps m1 => ∃ zs : List α, xs = zs.map inj ∧ LcS (Nat.ble zs.length 100000)
      (∀ a ∈ zs, ∀ (q : Addr × MO), Wg wNo eNo g (inj a) (wipeR r vs) (q :: m1) fun r2 m2 => We wNo eNo te r2 m2 fun y m4 => LcL f a y (q :: m1) m4) (K (.lst (zs.map f)) m1)) : We W E (tLc wi g tYes te vs) r m K :=
  we_frz (we_lcG (fun _ => True) inj (fun _ => true) f gk fun s H R e z gg => h s H R e z fun J xs ps m1 H1 s1 mu1 it ⟨zs, hx, ⟨hlen, hel, hK⟩⟩ => gg J xs ps m1 H1 s1 mu1 it
    ⟨zs, hx, trivial, hlen, fun a ha q s2 H2 v Q e2 z2 rp2 g2 => hel a ha q s2 H2 v Q e2 z2 rp2 fun r3 m3 s3 H3 a3 b3 c3 => g2 r3 m3 s3 H3 a3 b3 (wt_yes ⟨rfl, fun _ => c3.imp fun _ _ l => ⟨l.e, l.s⟩, fun q => nomatch q⟩),
      fun Dd hD => ⟨Dd, _, m1, rfl, rfl, by rw [filter_tt]; exact hK⟩⟩)
/-- with a test, the list fixed -/
theorem we_lcp {α : Type} (inj : α → D) (p : α → Bool) (f : α → D) (gk : GK g vs) (h : Wi W E wi r m fun xs ps m1 => ∃ zs : List α, xs = zs.map inj ∧ LcS (Nat.ble zs.length 100000)
      (∀ a ∈ zs, ∀ (q : Addr × MO), Wg wNo eNo g (inj a) (wipeR r vs) (q :: m1) fun r2 m2 => Wt wNo eNo tt r2 m2 fun b m3 => b = p a ∧
        (b = true → We wNo eNo te r2 m3 fun y m4 => LcL f a y (q :: m1) m4) ∧ (b = false → m3 = q :: m1)) (K (.lst ((zs.filter p).map f)) m1)) : We W E (tLc wi g tt te vs) r m K :=
  we_frz (we_lcG (fun _ => True) inj p f gk fun s H R e z gg => h s H R e z fun J xs ps m1 H1 s1 mu1 it ⟨zs, hx, ⟨hlen, hel, hK⟩⟩ => gg J xs ps m1 H1 s1 mu1 it
    ⟨zs, hx, trivial, hlen, fun a ha q s2 H2 v Q e2 z2 rp2 g2 => hel a ha q s2 H2 v Q e2 z2 rp2 fun r3 m3 s3 H3 a3 b3 c3 => g2 r3 m3 s3 H3 a3 b3
      fun s4 H4 Q4 e4 z4 g4 => c3 s4 H4 Q4 e4 z4 fun b m5 H5 a5 b5 ⟨hb, ht, hf⟩ => g4 b m5 H5 a5 b5 ⟨hb, fun hbt => (ht hbt).imp fun _ _ l => ⟨l.e, l.s⟩, hf⟩, fun Dd hD => ⟨Dd, _, m1, rfl, rfl, hK⟩⟩)
/-- without tests, the list mutable -/
theorem we_lcM {α : Type} (inj : α → D) (f : α → D) (gk : GK g vs) (h : Wi W E wi r m fun xs ps m1 => ∃ zs : List α, xs = zs.map inj ∧ LcS (Nat.ble zs.length 100000)
      (∀ a ∈ zs, ∀ (q : Addr × MO), Wg wNo eNo g (inj a) (wipeR r vs) (q :: m1) fun r2 m2 => We wNo eNo te r2 m2 fun y m4 => LcL f a y (q :: m1) m4) (∀ Dd, ¬ dom m1 Dd → K (.ref Dd) ((Dd, .lst (zs.map f)) :: m1))) : We W E (tLc wi g tYes te vs) r m K :=
  we_lcG (fun _ => True) inj (fun _ => true) f gk fun s H R e z gg => h s H R e z fun J xs ps m1 H1 s1 mu1 it ⟨zs, hx, ⟨hlen, hel, hK⟩⟩ => gg J xs ps m1 H1 s1 mu1 it
    ⟨zs, hx, trivial, hlen, fun a ha q s2 H2 v Q e2 z2 rp2 g2 => hel a ha q s2 H2 v Q e2 z2 rp2 fun r3 m3 s3 H3 a3 b3 c3 => g2 r3 m3 s3 H3 a3 b3 (wt_yes ⟨rfl, fun _ => c3.imp fun _ _ l => ⟨l.e, l.s⟩, fun q => nomatch q⟩),
      fun Dd hD => by rw [filter_tt]; exact hK Dd hD⟩
end

/-! ### loops -/
section
variable {W : WX} {E : ET} {r : Rho} {m : Mu} {P : DEnds} {wi : TI} {g : TG} {tb : TS}
theorem ws_forI (h : Wi W E wi r m fun xs ps m1 => ∃ I : Nat → Rho → Mu → Prop, I 0 r m1 ∧ (∀ k r' m', I k r' m' → Sub ps m1 m') ∧
    (∀ k x r' m', xs[k]? = some x → I k r' m' → Wg W E g x r' m' fun r2 m2 => Ws W E tb r2 m2 { nx := I (k + 1), rt := P.rt, bk := P.nx, ct := I (k + 1) }) ∧ (∀ r' m', I xs.length r' m' → P.nx r' m')) :
    Ws W E (tFor wi g tb) r m P := fun s H De e z gg =>
  h s H _ e z fun J xs ps m1 H1 s1 mu1 it ⟨I, i0, isub, istep, iend⟩ => by
    refine ⟨fun i n s' H' => n = xs.length - i ∧ i ≤ xs.length ∧ ∃ r' m', Stp (dom m1) H1 (dom m') H' ∧ EnvR r' m' s' H' ∧ I i r' m', ⟨xs.length, rfl, Nat.zero_le _, r, m1, Stp.refl _ _, e.step s1 mu1, i0⟩, ?_⟩
    rintro i n s' H' ⟨rfl, hi, r', m', st, e', hI⟩
    have sb := isub i r' m' hI
    by_cases hlt : i < xs.length
    · refine .inr ⟨it.go i m' H' st e'.mu sb hlt, fun s2 H2 => ∃ r2 m2, Stp (dom m1) H1 (dom m2) H2 ∧ EnvR r2 m2 s2 H2 ∧ I (i + 1) r2 m2, fun s2 H2 q => ⟨_, by omega, rfl, hlt, q⟩, fun v H2 y => ?_⟩
      obtain ⟨d, hd, st2, mu2, rp⟩ := it.yld i m' H' st e'.mu sb v H2 y hlt
      refine istep i d r' m' hd hI s' H2 v _ (e'.step st2 mu2) (z.step (s1.trans (st.trans st2))) rp fun r3 m3 s3 H3 st3 e3 q3 => ?_
      have sta := st.trans (st2.trans st3)
      exact q3 s3 H3 _ e3 (z.step (s1.trans sta)) (goL gg (s1.trans sta) fun r4 m4 s4 H4 a4 b4 c4 => ⟨r4, m4, sta.trans a4, b4, c4⟩)
    · have ei : i = xs.length := by omega
      subst ei
      exact .inl ⟨it.stop m' H' st e'.mu sb, gg.nx r' m' s' H' (s1.trans st) e' (iend r' m' hI)⟩
end
end DL
set_option Elab.async false
set_option linter.all false
set_option maxRecDepth 100000
/-! DL22: mutable objects taken as fixed, for a while or for good; lists and tuples made of others; sums, joins, cuts. -/
namespace DL
open PySem PySem.Spec L2
open PyProof.Rows hiding St

/-! ### mutable objects taken as fixed -/
mutual
/-- d, where the objects of own that it names are taken as they lie -/
inductive Frz (own : Mu) : D → D → Prop
  | same (d : D) : Frz own d d
  | ref {p : Addr} {xs ys : List D} (h : At own p (.lst xs)) (t : FrzL own xs ys) : Frz own (.ref p) (.lst ys)
  | refI {p C : Addr} {ns : List Str} {ds es : List D} (h : At own p (.ins C ns ds)) (t : FrzL own ds es) : Frz own (.ref p) (.ins C ns es)
  | lst {xs ys : List D} (t : FrzL own xs ys) : Frz own (.lst xs) (.lst ys)
  | tup {xs ys : List D} (t : FrzL own xs ys) : Frz own (.tup xs) (.tup ys)
inductive FrzL (own : Mu) : List D → List D → Prop
  | nil : FrzL own [] []
  | cons {x y : D} {xs ys : List D} (h : Frz own x y) (t : FrzL own xs ys) : FrzL own (x :: xs) (y :: ys)
end
theorem FrzL.same {own : Mu} : ∀ xs : List D, FrzL own xs xs
  | [] => .nil
  | x :: xs => .cons (.same x) (FrzL.same xs)
theorem At.app {own base : Mu} {p : Addr} {o : MO} (h : At own p o) : At (own ++ base) p o := by
  induction h with
  | head => exact .head
  | tail _ ih => exact .tail ih
theorem At.appR {own base : Mu} {p : Addr} {o : MO} (h : At base p o) : At (own ++ base) p o := by
  induction own with
  | nil => exact h
  | cons q own ih => exact .tail ih
theorem dom_app {own base : Mu} {a : Addr} (h : dom base a) : dom (own ++ base) a := by
  unfold dom at *
  rw [List.map_append]
  exact List.mem_append_right _ h
theorem MutR.base {own base : Mu} {H : Hp} (r : MutR (own ++ base) H) : MutR base H := by
  induction own with
  | nil => exact r
  | cons q own ih => exact ih r.drop
theorem MutR.apart {own base : Mu} {H : Hp} (r : MutR (own ++ base) H) {p : Addr} {o : MO} (h : At own p o) : ¬ dom base p := by
  have nd := r.nd
  rw [List.map_append, List.nodup_append] at nd
  exact fun z => nd.2.2 p (List.mem_map.mpr ⟨_, h.mem, rfl⟩) p z rfl
theorem repF_of {M : Addr → Prop} {H : Hp} : ∀ {ns : List Str} {ds es : List D} {vs : List (Str × V)}, RepF M H ns ds vs → (∀ vs', vs.map (·.2) = vs' → Reps M H es vs') → es.length = ds.length → RepF M H ns es vs
  | _, _, es, _, .nil, _, hl => by
    cases es with
    | nil => exact .nil
    | cons _ _ => simp at hl
  | _, _, es, (n, v) :: vs, .cons r t, h, hl => by
    cases es with
    | nil => simp at hl
    | cons e es =>
      have q := h _ rfl
      simp only [List.map_cons] at q
      cases q with
      | cons q1 q2 => exact .cons q1 (repF_of t (fun vs' e => by subst e; exact q2) (by simpa using hl))
theorem repF_vals {M : Addr → Prop} {H : Hp} : ∀ {ns : List Str} {ds : List D} {vs : List (Str × V)}, RepF M H ns ds vs → Reps M H ds (vs.map (·.2))
  | _, _, _, .nil => .nil
  | _, _, _, .cons r t => .cons r (repF_vals t)
theorem FrzL.len {own : Mu} : ∀ {xs ys : List D}, FrzL own xs ys → ys.length = xs.length
  | _, _, .nil => rfl
  | _, _, .cons _ t => congrArg (· + 1) (FrzL.len t)
mutual
theorem Frz.rep {own base : Mu} {H : Hp} (mu : MutR (own ++ base) H) : ∀ {d d' : D}, Frz own d d' → ∀ {v : V}, Rep (dom (own ++ base)) H d v → Rep (dom base) H d' v
  | _, _, .same d, v, r => r.mono (Stp.less fun a z => dom_app z)
  | _, _, .ref h t, v, r => by
    cases r
    have q := (h.app (base := base)).rep mu
    cases q with
    | lst hh rs => exact .lst (mu.apart h) (.inl hh) (FrzL.rep mu t rs)
  | _, _, .refI h t, v, r => by
    cases r
    have q := (h.app (base := base)).rep mu
    cases q with
    | ins hh rf => exact .ins (mu.apart h) hh (repF_of (rf.mono (Stp.less fun a z => dom_app z)) (fun vs' e => by subst e; exact FrzL.rep mu t (repF_vals rf)) t.len)
  | _, _, .lst t, v, r => by
    cases r with
    | lst mm hh rs => exact .lst (fun z => mm (dom_app z)) hh (FrzL.rep mu t rs)
  | _, _, .tup t, v, r => by
    cases r with
    | tup mm hh rs => exact .tup (fun z => mm (dom_app z)) hh (FrzL.rep mu t rs)
theorem FrzL.rep {own base : Mu} {H : Hp} (mu : MutR (own ++ base) H) : ∀ {d d' : List D}, FrzL own d d' → ∀ {v : List V}, Reps (dom (own ++ base)) H d v → Reps (dom base) H d' v
  | _, _, .nil, _, .nil => .nil
  | _, _, .cons h t, _, .cons r q => .cons (Frz.rep mu h r) (FrzL.rep mu t q)
end
inductive FrzR (own : Mu) : Rho → Rho → Prop
  | nil : FrzR own [] []
  | none {o : Option D} {r r' : Rho} (t : FrzR own r r') : FrzR own (o :: r) (none :: r')
  | same {o : Option D} {r r' : Rho} (t : FrzR own r r') : FrzR own (o :: r) (o :: r')
  | some {d d' : D} {r r' : Rho} (h : Frz own d d') (t : FrzR own r r') : FrzR own (some d :: r) (some d' :: r')
theorem FrzR.ros {own base : Mu} {H : Hp} (mu : MutR (own ++ base) H) : ∀ {r r' : Rho}, FrzR own r r' → ∀ {s : L2.St}, ROs (dom (own ++ base)) H r s → ROs (dom base) H r' s
  | _, _, .nil, _, .nil => .nil
  | _, _, .none t, _, .cons _ q => .cons (.none _) (FrzR.ros mu t q)
  | _, _, .same t, _, .cons o q => .cons (o.mono (Stp.less fun a z => dom_app z)) (FrzR.ros mu t q)
  | _, _, .some h t, _, .cons o q => by
    cases o with
    | some r => exact .cons (.some (Frz.rep mu h r)) (FrzR.ros mu t q)
theorem EnvR.frz {own base : Mu} {r r' : Rho} {s : L2.St} {H : Hp} (e : EnvR r (own ++ base) s H) (f : FrzR own r r') : EnvR r' base s H := ⟨f.ros e.mu e.env, e.mu.base⟩
section
variable {W : WX} {E : ET} {r r' : Rho} {m base : Mu} {K : KT} {P : DEnds} {te : TE} {t : TS}
/-- for good -/
theorem Ws.frz (own : Mu) (f : FrzR own r r') (h : Ws W E t r' base P) : Ws W E t r (own ++ base) P := fun s H De e z g => by
  have ls : Stp (dom (own ++ base)) H (dom base) H := Stp.less fun a z => dom_app z
  exact h s H De (e.frz f) (z.step ls) ⟨fun r' m' s' H' a b k => g.nx r' m' s' H' (ls.trans a) b k, fun d m' v H' a b c k => g.rt d m' v H' (ls.trans a) b c k, fun r' m' s' H' a b k => g.bk r' m' s' H' (ls.trans a) b k, fun r' m' s' H' a b k => g.ct r' m' s' H' (ls.trans a) b k⟩
/-- an answer -/
theorem we_frzD (own : Mu) {d d' : D} (f : Frz own d d') (h : We W E te r m fun x m' => x = d ∧ m' = own ++ base ∧ K d' base) : We W E te r m K := fun s H Q e z g =>
  h s H _ e z fun x m' v H1 s1 mu1 r1 ⟨e1, e2, k⟩ => by
    subst e1 e2
    have ls : Stp (dom (own ++ base)) H1 (dom base) H1 := Stp.less fun a z => dom_app z
    exact g d' base v H1 (s1.trans ls) mu1.base (f.rep mu1 r1) k
def atomD : D → Bool
  | .non => true
  | .bl _ => true
  | .int _ => true
  | .str _ => true
  | .ty _ => true
  | _ => false
theorem rep_atom {M M' : Addr → Prop} {H H' : Hp} {v : V} : ∀ {d : D}, atomD d = true → Rep M H d v → Rep M' H' d v
  | .non, _, .non => .non
  | .bl _, _, .bl _ => .bl _
  | .int _, _, .int _ => .int _
  | .str _, _, .str _ => .str _
  | .ty _, _, .ty _ => .ty _
/-- for the while of an expression that writes nothing and answers an atom -/
theorem we_thaw (f : FrzR m r r') (h : We W (fun _ _ _ => False) te r' [] fun d m' => m' = [] ∧ atomD d = true ∧ K d m) : We W E te r m K := fun s H Q e z g => by
  have em : m ++ [] = m := List.append_nil m
  have e' : EnvR r (m ++ []) s H := by rw [em]; exact e
  refine h s H _ (e'.frz f) (fun _ _ _ _ _ _ _ _ _ _ q => q.elim) fun d m' v H1 s1 mu1 r1 ⟨hm, ha, k⟩ => ?_
  subst hm
  have un : ∀ a o, H a = some o → H1 a = some o := fun a o ho => (s1 a o ho dom_nil).1
  have st : Stp (dom m) H (dom m) H1 := fun a o ho hn => ⟨un a o ho, hn⟩
  exact g d m v H1 st ⟨e.mu.nd, fun q hq => (e.mu.at_ q hq).mono st fun u hu => un _ _ hu⟩ (rep_atom ha r1) k
/-- the order in which mutable objects are told says nothing -/
theorem MutR.perm {m m' : Mu} {H : Hp} (r : MutR m H) (p : m.Perm m') : MutR m' H ∧ dom m' = dom m := by
  have hd : dom m' = dom m := funext fun a => propext ⟨fun h => (p.map (·.1)).mem_iff.mpr h, fun h => (p.map (·.1)).mem_iff.mp h⟩
  refine ⟨⟨(p.map (·.1)).nodup_iff.mp r.nd, fun q hq => ?_⟩, hd⟩
  rw [hd]
  exact r.at_ q (p.mem_iff.mpr hq)
theorem we_perm (h : We W E te r m fun d m' => ∃ m'', m'.Perm m'' ∧ K d m'') : We W E te r m K := fun s H Q e z g =>
  h s H _ e z fun d m' v H1 s1 mu1 r1 ⟨m'', p, k⟩ => by
    obtain ⟨mu2, hd⟩ := mu1.perm p
    rw [← hd] at s1 r1
    exact g d m'' v H1 s1 mu2 r1 k
end

/-! ### lists and tuples made of others; sums -/
section
variable {X : Cx} {W : WX} {E : ET} {r : Rho} {m : Mu} {K : KT} {G : Gx} {j : Nat} {te : TE}
def rListOf (K : PySem.W.Frag) : List V → Hp → VK → Prop := fun xs H Q => ∃ p ys, xs = [.ref p] ∧ (SqL K H p ys ∨ SqT K H p ys) ∧ ∀ l, H l = none → Q (.ref l) (upd H l (.lst ys))
def rTupleOf (K : PySem.W.Frag) : List V → Hp → VK → Prop := fun xs H Q => ∃ p ys, xs = [.ref p] ∧ ((SqL K H p ys ∧ ∀ l, H l = none → Q (.ref l) (upd H l (.tup ys))) ∨ (SqT K H p ys ∧ Q (.ref p) H))
def cListF (G : Gx) : OC := fun xs _ H Q => rListOf G.K xs H Q
def cTupleF (G : Gx) : OC := fun xs _ H Q => rTupleOf G.K xs H Q
def cSumF (G : Gx) : OC := fun xs _ H Q => rSum G.K xs H Q
theorem cs_list : CallS X (.type "list") (cListF (Gx.of X)) := CallS.of call_list_of
theorem cs_tuple : CallS X (.type "tuple") (cTupleF (Gx.of X)) := CallS.of call_tuple_of
theorem cs_sum (hc : X.calm = true) : CallS X (.builtin "sum") (cSumF (Gx.of X)) := CallS.of (cr_sum hc)
theorem seqM_or {k : Bool} {K : PySem.W.Frag} {H : Hp} {a : Addr} {vs : List V} (h : SqS k K H a vs) : SqL K H a vs ∨ SqT K H a vs := by
  cases k with
  | true => exact .inr h
  | false => exact .inl h
theorem new_notin {m : Mu} {H : Hp} {p : Addr} (mu : MutR m H) (hp : H p = none) : ¬ dom m p := fun zz => by
  obtain ⟨u, hu⟩ := mu.there zz
  rw [hp] at hu
  cases hu
theorem wc_listF {d : D} {ps : List Addr} {xs : List D} (sm : SeqM d m ps xs) (h : K (.lst xs) m) : Wc W E (cListF G) [d] r m K := fun s H Q vs e z rs g => by
  cases rs with
  | cons a t =>
    cases t
    obtain ⟨k, p, rfl, q⟩ := sm.at (K := G.K) a e.mu
    obtain ⟨ws, sq, rw'⟩ := q m H (Stp.refl _ _) e.mu Sub.refl
    exact ⟨p, ws, rfl, seqM_or sq, fun l hl => g _ m _ _ (Stp.new hl) (e.mu.new hl) (.lst (new_notin e.mu hl) (.inl upd_same) (rw'.mono (Stp.new hl))) h⟩
theorem wc_listM {d : D} {ps : List Addr} {xs : List D} (sm : SeqM d m ps xs) (h : ∀ p, ¬ dom m p → K (.ref p) ((p, .lst xs) :: m)) : Wc W E (cListF G) [d] r m K := fun s H Q vs e z rs g => by
  cases rs with
  | cons a t =>
    cases t
    obtain ⟨k, p, rfl, q⟩ := sm.at (K := G.K) a e.mu
    obtain ⟨ws, sq, rw'⟩ := q m H (Stp.refl _ _) e.mu Sub.refl
    exact ⟨p, ws, rfl, seqM_or sq, fun l hl => g _ _ _ _ (Stp.newM (x := .lst xs) hl) (e.mu.newM hl (.lst upd_same (rw'.mono (Stp.newM hl)))) (.ref l) (h l (new_notin e.mu hl))⟩
theorem wc_tupleL {d : D} {ps : List Addr} {xs : List D} (sm : SeqM d m ps xs) (h : K (.tup xs) m) : Wc W E (cTupleF G) [d] r m K := fun s H Q vs e z rs g => by
  cases rs with
  | cons a t =>
    cases t
    have ra := a
    cases sm with
    | tup =>
      cases ra with
      | @tup p _ ws mm hh rr => exact ⟨p, ws, rfl, .inr ⟨rd_t hh, g _ m _ H (Stp.refl _ _) e.mu a h⟩⟩
    | lst =>
      cases ra with
      | @lst p _ ws mm hh rr => exact ⟨p, ws, rfl, .inl ⟨rd_l hh, fun l hl => g _ m _ _ (Stp.new hl) (e.mu.new hl) (.tup (new_notin e.mu hl) (.inl upd_same) (rr.mono (Stp.new hl))) h⟩⟩
    | mutb hp =>
      cases ra
      have q := hp.rep e.mu
      cases q with
      | lst hh rr => exact ⟨_, _, rfl, .inl ⟨SqL.of hh, fun l hl => g _ m _ _ (Stp.new hl) (e.mu.new hl) (.tup (new_notin e.mu hl) (.inl upd_same) (rr.mono (Stp.new hl))) h⟩⟩
/-- a list, not a tuple -/
inductive LstM : D → Mu → List D → Prop
  | lst {m : Mu} {xs : List D} : LstM (.lst xs) m xs
  | mutb {m : Mu} {p : Addr} {xs : List D} (h : At m p (.lst xs)) : LstM (.ref p) m xs
theorem LstM.rd {d : D} {m : Mu} {xs : List D} {H : Hp} {v : V} (l : LstM d m xs) (mu : MutR m H) (rp : Rep (dom m) H d v) : ∃ a vs, v = .ref a ∧ Rd H a (.lst vs) ∧ Reps (dom m) H xs vs := by
  cases l with
  | lst =>
    cases rp with
    | lst mm hh rs => exact ⟨_, _, rfl, hh, rs⟩
  | mutb h =>
    cases rp
    have q := h.rep mu
    cases q with
    | lst hh rs => exact ⟨_, _, rfl, .inl hh, rs⟩
theorem reps_ints {M : Addr → Prop} {H : Hp} : ∀ {ns : List Int} {vs : List V}, Reps M H (ns.map D.int) vs → vs = ns.map V.int
  | [], _, .nil => rfl
  | n :: ns, _, .cons r t => by
    cases r
    rw [reps_ints t]
    rfl
theorem wc_sumF {d : D} {xs : List D} {ns : List Int} (l : LstM d m xs) (e : xs = ns.map D.int) (h : K (.int ns.sum) m) : Wc W E (cSumF G) [d] r m K := fun s H Q vs en z rs g => by
  cases rs with
  | cons a t =>
    cases t
    obtain ⟨p, ws, rfl, hh, rr⟩ := l.rd en.mu a
    subst e
    rw [reps_ints rr] at hh
    exact ⟨p, ns, rfl, rd_l hh, g _ m _ H (Stp.refl _ _) en.mu (.int _) h⟩
/-- two lists joined -/
theorem w2_catL {x y : D} {xs ys : List D} (lx : LstM x m xs) (ly : LstM y m ys) (hl : xs.length + ys.length ≤ 1000000) (h : K (.lst (xs ++ ys)) m) : W2 W E (oAdd G j W) x y r m K := fun s H Q v w e z rx ry g => by
  obtain ⟨a, vs, rfl, ha, ra⟩ := lx.rd e.mu rx
  obtain ⟨b, ws, rfl, hb, rb⟩ := ly.rd e.mu ry
  refine .inr (.inr (.inl ⟨a, b, vs, ws, rfl, rfl, ha, hb, ?_, fun p hp => ?_⟩))
  · rw [← ra.length, ← rb.length]
    exact Nat.le_trans hl (by decide : 1000000 ≤ sizeLine)
  · exact g _ m _ _ (Stp.new hp) (e.mu.new hp) (.lst (new_notin e.mu hp) (.inl upd_same) ((Reps.append ra rb).mono (Stp.new hp))) h
/-- xs[lo:hi] of any list -/
theorem we_slM {tl th : TO} (h : We W E te r m fun d m1 => ∃ xs, LstM d m1 xs ∧ Wo W E tl r m1 fun lo m2 => LstM d m2 xs ∧ Wo W E th r m2 fun hi m3 => LstM d m3 xs ∧ K (.lst (cutD xs lo hi)) m3) : We W E (tSl (rSlL G.K) te tl th) r m K := fun s H Q e z g =>
  h s H _ e z fun d m1 v H1 s1 mu1 r1 ⟨xs, l1, q⟩ => by
    refine q s H1 _ (e.step s1 mu1) (z.step s1) fun lo m2 H2 s2 mu2 ⟨l2, q2⟩ => ?_
    refine q2 s H2 _ ((e.step s1 mu1).step s2 mu2) ((z.step s1).step s2) fun hi m3 H3 s3 mu3 ⟨l3, k⟩ => ?_
    obtain ⟨a, vs, rfl, hh, rs⟩ := l3.rd mu3 ((r1.mono s2).mono s3)
    exact ⟨_, _, rfl, rd_l hh, fun p hp => g _ m3 _ _ (((s1.trans s2).trans s3).trans (Stp.new hp)) (mu3.new hp) (.lst (new_notin mu3 hp) (.inl upd_same) ((rs.cut lo hi).mono (Stp.new hp))) k⟩
end
end DL
set_option Elab.async false
set_option linter.all false
set_option maxRecDepth 100000
/-! DL23: tables whose rows are written: a mutable list of mutable lists. -/
namespace DL
open PySem PySem.Spec L2
open PyProof.Rows hiding St
/-- rows that lie at qs -/
def rowsMu : List Addr → List (List D) → Mu
  | q :: qs, xs :: xss => (q, .lst xs) :: rowsMu qs xss
  | _, _ => []
/-- the table at p, its rows at qs -/
def matM (p : Addr) (qs : List Addr) (xss : List (List D)) (m : Mu) : Mu := rowsMu qs xss ++ (p, .lst (qs.map .ref)) :: m
/-- .. without what lies below -/
def matO (p : Addr) (qs : List Addr) (xss : List (List D)) : Mu := rowsMu qs xss ++ [(p, .lst (qs.map .ref))]
theorem matM_eq {p : Addr} {qs : List Addr} {xss : List (List D)} {m : Mu} : matM p qs xss m = matO p qs xss ++ m := by simp [matM, matO]
theorem at_matP {p : Addr} {qs : List Addr} {xss : List (List D)} {m : Mu} : At (matM p qs xss m) p (.lst (qs.map .ref)) := At.appR .head
theorem at_rows : ∀ {qs : List Addr} {xss : List (List D)} {i : Nat} {q : Addr} {xs : List D}, qs[i]? = some q → xss[i]? = some xs → At (rowsMu qs xss) q (.lst xs)
  | [], _, _, _, _, h, _ => by simp at h
  | _ :: _, [], _, _, _, _, h => by simp at h
  | q0 :: qs, x0 :: xss, 0, q, xs, h, h' => by
    simp at h h'
    subst h h'
    exact .head
  | q0 :: qs, x0 :: xss, i + 1, q, xs, h, h' => .tail (at_rows (i := i) (by simpa using h) (by simpa using h'))
theorem at_matR {p q : Addr} {qs : List Addr} {xss : List (List D)} {m : Mu} {i : Nat} {xs : List D} (h : qs[i]? = some q) (h' : xss[i]? = some xs) : At (matM p qs xss m) q (.lst xs) := (at_rows h h').app
theorem Put.app {own own' base : Mu} {p : Addr} {u : MO} (h : Put own p u own') : Put (own ++ base) p u (own' ++ base) := by
  induction h with
  | head => exact .head
  | tail _ ih => exact .tail ih
theorem Put.appR {own base base' : Mu} {p : Addr} {u : MO} (h : Put base p u base') : Put (own ++ base) p u (own ++ base') := by
  induction own with
  | nil => exact h
  | cons q own ih => exact .tail ih
theorem put_rows : ∀ {qs : List Addr} {xss : List (List D)} {i : Nat} {q : Addr} {ys : List D}, qs[i]? = some q → i < xss.length → Put (rowsMu qs xss) q (.lst ys) (rowsMu qs (xss.set i ys))
  | [], _, _, _, _, h, _ => by simp at h
  | _ :: _, [], _, _, _, _, h => by simp at h
  | q0 :: qs, x0 :: xss, 0, q, ys, h, _ => by
    simp at h
    subst h
    exact .head
  | q0 :: qs, x0 :: xss, i + 1, q, ys, h, h' => .tail (put_rows (i := i) (by simpa using h) (by simpa using h'))
theorem put_matR {p q : Addr} {qs : List Addr} {xss : List (List D)} {m : Mu} {i : Nat} {ys : List D} (h : qs[i]? = some q) (h' : i < xss.length) : Put (matM p qs xss m) q (.lst ys) (matM p qs (xss.set i ys) m) := (put_rows h h').app
theorem frz_rows {own : Mu} : ∀ {qs : List Addr} {xss : List (List D)}, qs.length = xss.length → (∀ q ∈ rowsMu qs xss, At own q.1 q.2) → FrzL own (qs.map .ref) (xss.map .lst)
  | [], [], _, _ => .nil
  | q :: qs, xs :: xss, h, k => .cons (.ref (k _ (List.mem_cons_self ..)) (FrzL.same xs)) (frz_rows (by simpa using h) fun z hz => k z (List.mem_cons_of_mem _ hz))
theorem At.of_mem {m : Mu} {p : Addr} {o : MO} (h : (p, o) ∈ m) : At m p o := by
  induction m with
  | nil => cases h
  | cons q m ih =>
    rcases List.mem_cons.mp h with e | h
    · subst e; exact .head
    · exact .tail (ih h)
/-- the whole table, taken as fixed -/
theorem frz_mat {p : Addr} {qs : List Addr} {xss : List (List D)} {m : Mu} (h : qs.length = xss.length) : Frz (matM p qs xss m) (.ref p) (.lst (xss.map .lst)) := .ref at_matP (frz_rows h fun q hq => At.of_mem (List.mem_append_left _ hq))
theorem frz_matO {p : Addr} {qs : List Addr} {xss : List (List D)} (h : qs.length = xss.length) : Frz (matO p qs xss) (.ref p) (.lst (xss.map .lst)) := .ref (At.appR .head) (frz_rows h fun q hq => At.of_mem (List.mem_append_left _ hq))
theorem rowsMu_snoc : ∀ {qs : List Addr} {xss : List (List D)} {q : Addr} {xs : List D}, qs.length = xss.length → rowsMu (qs ++ [q]) (xss ++ [xs]) = rowsMu qs xss ++ [(q, .lst xs)]
  | [], [], _, _, _ => rfl
  | q0 :: qs, x0 :: xss, q, xs, h => congrArg (_ :: ·) (rowsMu_snoc (by simpa using h))
section
variable {W : WX} {E : ET} {r : Rho} {m : Mu} {K : KT} {G : Gx} {te : TE} {wi : TI} {g : TG} {vs : List Nat}
/-- [row for ..], each row a new mutable list -/
theorem we_lcMat {α : Type} (inj : α → D) (f : α → List D) (gk : GK g vs) (h : Wi W E wi r m fun xs ps m1 => ∃ zs : List α, xs = zs.map inj ∧ Nat.ble zs.length 100000 = true ∧
      (∀ a ∈ zs, ∀ (own : Mu), Wg wNo eNo g (inj a) (wipeR r vs) (own ++ m1) fun r2 m2 => We wNo eNo te r2 m2 fun y m4 => ∃ q, y = .ref q ∧ m4 = (q, .lst (f a)) :: (own ++ m1)) ∧
      ∀ p qs, qs.length = zs.length → K (.ref p) (matM p qs (zs.map f) m1)) : We W E (tLc wi g tYes te vs) r m K :=
  we_perm (we_lcI gk fun s H R e z gg => h s H R e z fun J xs ps m1 H1 s1 mu1 it ⟨zs, hx, hlen, hel, hK⟩ => gg J xs ps m1 H1 s1 mu1 it fun Dd hD => by
    subst hx
    have hlen' := Nat.le_of_ble_eq_true hlen
    refine ⟨fun i m' => ∃ (qs : List Addr) (rs : Mu), qs.length = (zs.take i).length ∧ m' = rs ++ (Dd, .lst (qs.map .ref)) :: m1 ∧ rs.Perm (rowsMu qs ((zs.take i).map f)), ⟨[], [], rfl, rfl, List.Perm.nil⟩, fun i m' ⟨qs, rs, _, e, _⟩ => ?_, fun i x m' hx ⟨qs, rs, hl, e, hp⟩ => ?_, fun m' ⟨qs, rs, hl, e, hp⟩ => ?_⟩
    · subst e
      intro p hp o ho
      exact At.appR (.tail ho)
    · subst e
      rw [List.getElem?_map] at hx
      cases ha : zs[i]? with
      | none => rw [ha] at hx; cases hx
      | some a =>
        rw [ha] at hx
        cases hx
        have ex : zs.take (i + 1) = zs.take i ++ [a] := by
          rw [List.take_add_one, ha]
          rfl
        intro s2 H2 v Q e2 z2 rp2 g2
        have ee : rs ++ (Dd, MO.lst (qs.map .ref)) :: m1 = (rs ++ [(Dd, MO.lst (qs.map .ref))]) ++ m1 := by simp
        have key := hel a (List.mem_of_getElem? ha) (rs ++ [(Dd, MO.lst (qs.map .ref))])
        rw [← ee] at key
        refine key s2 H2 v Q e2 z2 rp2 fun r3 m3 s3 H3 a3 b3 c3 => g2 r3 m3 s3 H3 a3 b3 (wt_yes ⟨fun _ => c3.imp fun y m6 ⟨q, e5, e6⟩ => ?_, fun q => nomatch q⟩)
        subst e5 e6
        have lq : qs.length ≤ zs.length := by rw [hl, List.length_take]; exact Nat.min_le_right _ _
        refine ⟨qs.map .ref, (q, .lst (f a)) :: (rs ++ (Dd, .lst (qs.map .ref ++ [.ref q])) :: m1), .tail (At.appR .head), ?_, .tail ?_, qs ++ [q], (q, .lst (f a)) :: rs, ?_, ?_, ?_⟩
        · rw [List.length_map]
          omega
        · exact Put.appR .head
        · rw [ex]
          simp [hl]
        · simp
        · rw [ex, List.map_append]
          show List.Perm _ (rowsMu (qs ++ [q]) ((zs.take i).map f ++ [f a]))
          rw [rowsMu_snoc (by rw [hl, List.length_map])]
          exact (List.Perm.cons _ hp).trans (List.perm_append_comm (l₁ := [(q, MO.lst (f a))]))
    · subst e
      rw [List.length_map, List.take_length] at hl hp
      exact ⟨_, hp.append_right _, hK Dd qs hl⟩)
end
end DL
namespace DL
open PySem PySem.Spec L2
open PyProof.Rows hiding St
/-! ### the rules with the fragment told by its name -/
section
variable {X : Cx} {KK : PySem.W.Frag} {tg l e e2 : Expr} {tl : TE} {ta : TA} {p pos tpos : Pos} {elts es : List Expr} {kk k n : Nat} {t : TGs}
theorem pi_seqK (hK : X.K = KK) (hl : PE X l tl) : PI X tg l (iSeq KK tl) := by
  subst hK
  exact pi_seq hl
theorem pi_zipK (hK : X.K = KK) (hg : Gl X "zip") (hm : X.mg "zip" = none) (ha : PA X [e, e2] ta)
    (hs : starEach [e, e2] X.env = (false, eval e X.env) :: starEach [e2] X.env := by rfl) (hpl : (backTo pos (starEach [e2] X.env)).any (·.1) = false := by rfl) :
    PI X (.Tuple elts kk tpos) (.Call (.Name "zip" p) [e, e2] [] pos) (iZipS KK ta) := by
  subst hK
  exact pi_zipS hg hm ha hs hpl
theorem pg_tupK (hK : X.K = KK) (hc : X.calm = true) (h : PGs X es t)
    (hn : (assignEach es X.env).length = n := by rfl) (hst : (assignEach es X.env).findIdx? (·.1) = none := by rfl) : PG X (.Tuple es k pos) (gTup KK n t) := by
  subst hK
  exact pg_tup hc h hn hst
theorem sl_listK (hK : X.K = KK) : SlR X (rSlL KK) := by
  subst hK
  exact sl_list
end
end DL
set_option Elab.async false
set_option linter.all false
/-! MQ: a Ratio by its number (Lean's own Rat). -/
namespace DL
open PySem PySem.Spec L2
abbrev dv (t b : Int) : Rat := Rat.divInt t b
/-- a Ratio, by its number -/
abbrev rq (C : Addr) (x : Rat) : D := rat C x.num (x.den : Int)
structure Qb (n : Nat) (x : Rat) : Prop where
  t : Bd n x.num
  b : Bd n (x.den : Int)
theorem Qb.mono {a b : Nat} {x : Rat} (h : Qb a x) (l : a ≤ b) : Qb b x := ⟨h.1.mono l, h.2.mono l⟩
theorem den_pos (x : Rat) : 0 < (x.den : Int) := by have := x.den_nz; omega
theorem den_ne (x : Rat) : (x.den : Int) ≠ 0 := by have := x.den_nz; omega
theorem rT_dv {t b : Int} (h : b ≠ 0) : rT t b = (dv t b).num ∧ rB t b = ((dv t b).den : Int) := by
  obtain ⟨g, hg, e1, e2, hp⟩ := rat_eqs (t := t) h
  have e3 : dv t b = Rat.divInt (rT t b) (rB t b) := by
    have := Rat.divInt_mul_left (n := rT t b) (d := rB t b) hg
    rw [← e1, ← e2] at this
    exact this
  have hB : ((rB t b).toNat : Int) = rB t b := by omega
  have e4 : Rat.divInt (rT t b) (rB t b) = (⟨rT t b, (rB t b).toNat, by omega, by
      have := rat_gcd (t := t) h
      have e : (rB t b).natAbs = (rB t b).toNat := by omega
      rw [e] at this
      exact this⟩ : Rat) := by
    rw [Rat.mk_eq_divInt, hB]
  rw [e3, e4]
  exact ⟨rfl, hB.symm⟩
theorem rq_of {C : Addr} {t b : Int} (h : b ≠ 0) : rat C (rT t b) (rB t b) = rq C (dv t b) := by
  rw [(rT_dv h).1, (rT_dv h).2]
theorem qb_of {n : Nat} {t b : Int} (h : b ≠ 0) (ht : Bd n t) (hb : Bd n b) : Qb n (dv t b) := by
  have q1 := rat_bd h ht
  have q2 := rat_bdB (t := t) h hb
  rw [(rT_dv h).1] at q1
  rw [(rT_dv h).2] at q2
  exact ⟨q1, q2⟩
theorem dv_self (x : Rat) : dv x.num x.den = x := Rat.num_divInt_den x
theorem dv_pair {t b : Int} (h : 0 < b) : (dv t b).num * b = t * ((dv t b).den : Int) := by
  obtain ⟨g, hg, e1, e2, hp⟩ := rat_eqs (t := t) (b := b) (by omega)
  have r := rT_dv (t := t) (b := b) (by omega)
  rw [← r.1, ← r.2]
  generalize rT t b = P at *
  generalize rB t b = Q at *
  subst e1 e2
  ac_rfl
theorem dv_eq {a b c d : Int} (hb : b ≠ 0) (hd : d ≠ 0) : dv a b = dv c d ↔ a * d = c * b := Rat.divInt_eq_divInt_iff hb hd
theorem add_dv {a b c d : Int} (hb : b ≠ 0) (hd : d ≠ 0) : dv a b + dv c d = dv (a * d + c * b) (b * d) := Rat.divInt_add_divInt _ _ hb hd
theorem sub_dv {a b c d : Int} (hb : b ≠ 0) (hd : d ≠ 0) : dv a b - dv c d = dv (a * d - c * b) (b * d) := Rat.divInt_sub_divInt _ _ hb hd
theorem mul_dv {a b c d : Int} : dv a b * dv c d = dv (a * c) (b * d) := Rat.divInt_mul_divInt _ _
theorem neg_dv {a b : Int} : -dv a b = dv (-a) b := Rat.neg_divInt _ _
theorem dv_scale {a b k : Int} (hk : k ≠ 0) : dv (a * k) (b * k) = dv a b := Rat.divInt_mul_right hk
theorem inv_dv {a b : Int} : (dv a b)⁻¹ = dv b a := by
  by_cases hb : b = 0
  · subst hb
    rw [show dv a 0 = 0 from Rat.divInt_zero a, show dv 0 a = 0 from Rat.zero_divInt a, Rat.inv_zero]
  by_cases ha : a = 0
  · subst ha
    rw [show dv b 0 = 0 from Rat.divInt_zero b, show dv 0 b = 0 from Rat.zero_divInt b, Rat.inv_zero]
  refine Rat.inv_eq_of_mul_eq_one ?_
  rw [mul_dv, Int.mul_comm a b]
  exact Rat.divInt_self' (Int.mul_ne_zero hb ha)
theorem lt_dv {a b c d : Int} (hb : 0 < b) (hd : 0 < d) : dv a b < dv c d ↔ a * d < c * b := by
  rw [Rat.lt_iff]
  have e1 := dv_pair (t := a) hb
  have e2 := dv_pair (t := c) hd
  have p1 := den_pos (dv a b)
  have p2 := den_pos (dv c d)
  generalize (dv a b).num = A at *
  generalize ((dv a b).den : Int) = B at *
  generalize (dv c d).num = C at *
  generalize ((dv c d).den : Int) = D at *
  have k : 0 < b * d := Int.mul_pos hb hd
  have k2 : 0 < B * D := Int.mul_pos p1 p2
  have x1 : A * D * (b * d) = (a * d) * (B * D) := by
    calc A * D * (b * d) = (A * b) * (D * d) := by ac_rfl
      _ = _ := by rw [e1]; ac_rfl
  have x2 : C * B * (b * d) = (c * b) * (B * D) := by
    calc C * B * (b * d) = (C * d) * (B * b) := by ac_rfl
      _ = _ := by rw [e2]; ac_rfl
  constructor
  · intro h
    have := Int.mul_lt_mul_of_pos_right h k
    rw [x1, x2] at this
    exact Int.lt_of_mul_lt_mul_right this (Int.le_of_lt k2)
  · intro h
    have := Int.mul_lt_mul_of_pos_right h k2
    rw [← x1, ← x2] at this
    exact Int.lt_of_mul_lt_mul_right this (Int.le_of_lt k)
theorem le_dv {a b c d : Int} (hb : 0 < b) (hd : 0 < d) : dv a b ≤ dv c d ↔ a * d ≤ c * b := by
  rw [← Rat.not_lt, lt_dv hd hb]
  omega
theorem lt_q {x y : Rat} : x.num * y.den < y.num * x.den ↔ x < y := (Rat.lt_iff x y).symm
theorem num_neg_iff {x : Rat} : x.num < 0 ↔ x < 0 := by
  rw [← lt_q (x := x) (y := 0)]
  show _ ↔ x.num * ((1 : Nat) : Int) < 0 * x.den
  omega
theorem num_pos_iff {x : Rat} : 0 < x.num ↔ 0 < x := by
  rw [← lt_q (x := 0) (y := x)]
  show _ ↔ 0 * (x.den : Int) < x.num * ((1 : Nat) : Int)
  omega
theorem dv_pos {t b : Int} (hb : 0 < b) : 0 < dv t b ↔ 0 < t := by
  have := lt_dv (a := 0) (b := 1) (c := t) (d := b) (by decide) hb
  rw [show dv 0 1 = 0 from rfl] at this
  rw [this]; omega
theorem dv_neg {t b : Int} (hb : 0 < b) : dv t b < 0 ↔ t < 0 := by
  have := lt_dv (a := t) (b := b) (c := 0) (d := 1) hb (by decide)
  rw [show dv 0 1 = 0 from rfl] at this
  rw [this]; omega
theorem dv_nonneg {t b : Int} (hb : 0 < b) : 0 ≤ dv t b ↔ 0 ≤ t := by
  rw [← Rat.not_lt, dv_neg hb]; omega
theorem dv_nonpos {t b : Int} (hb : 0 < b) : dv t b ≤ 0 ↔ t ≤ 0 := by
  rw [← Rat.not_lt, dv_pos hb]; omega
theorem dv_zero {t b : Int} (hb : b ≠ 0) : dv t b = 0 ↔ t = 0 := by
  have := dv_eq (a := t) (b := b) (c := 0) (d := 1) hb (by decide)
  rw [show dv 0 1 = 0 from rfl] at this
  rw [this]; omega
/-! ### the program's own formulas -/
theorem q_add {x y : Rat} : dv (x.num * y.den + y.num * x.den) (x.den * y.den) = x + y := by
  have := add_dv (a := x.num) (c := y.num) (den_ne x) (den_ne y)
  rw [dv_self, dv_self] at this
  exact this.symm
theorem q_sub {x y : Rat} : dv (x.num * y.den - y.num * x.den) (x.den * y.den) = x - y := by
  have := sub_dv (a := x.num) (c := y.num) (den_ne x) (den_ne y)
  rw [dv_self, dv_self] at this
  exact this.symm
theorem q_mul {x y : Rat} : dv (x.num * y.num) (x.den * y.den) = x * y := by
  have := mul_dv (a := x.num) (b := x.den) (c := y.num) (d := y.den)
  rw [dv_self, dv_self] at this
  exact this.symm
theorem q_neg {x : Rat} : dv (-x.num) x.den = -x := by
  have := neg_dv (a := x.num) (b := x.den)
  rw [dv_self] at this
  exact this.symm
theorem q_div {x y : Rat} : dv (x.num * y.den) (x.den * y.num) = x / y := by
  have := mul_dv (a := x.num) (b := x.den) (c := y.den) (d := y.num)
  rw [← inv_dv (a := y.num), dv_self, dv_self] at this
  exact this.symm
theorem num_ne {x : Rat} (h : x ≠ 0) : x.num ≠ 0 := fun z => h (Rat.num_eq_zero.mp z)
theorem qb_add {a b : Nat} {x y : Rat} (h : Qb a x) (k : Qb b y) : Qb (a + b + 1) (x + y) := by
  rw [← q_add]
  exact qb_of (Int.mul_ne_zero (den_ne x) (den_ne y)) (((h.1.mul k.2)).add ((k.1.mul h.2).mono (Nat.le_of_eq (Nat.add_comm _ _)))) ((h.2.mul k.2).mono (by omega))
theorem qb_sub {a b : Nat} {x y : Rat} (h : Qb a x) (k : Qb b y) : Qb (a + b + 1) (x - y) := by
  rw [← q_sub]
  exact qb_of (Int.mul_ne_zero (den_ne x) (den_ne y)) (((h.1.mul k.2)).sub ((k.1.mul h.2).mono (Nat.le_of_eq (Nat.add_comm _ _)))) ((h.2.mul k.2).mono (by omega))
theorem qb_mul {a b : Nat} {x y : Rat} (h : Qb a x) (k : Qb b y) : Qb (a + b) (x * y) := by
  rw [← q_mul]
  exact qb_of (Int.mul_ne_zero (den_ne x) (den_ne y)) (h.1.mul k.1) (h.2.mul k.2)
theorem qb_div {a b : Nat} {x y : Rat} (h : Qb a x) (k : Qb b y) (n : y ≠ 0) : Qb (a + b) (x / y) := by
  rw [← q_div]
  exact qb_of (Int.mul_ne_zero (den_ne x) (num_ne n)) (h.1.mul k.2) (h.2.mul k.1)
theorem q_inv {x : Rat} : 1 / x = dv x.den x.num := by
  have := inv_dv (a := x.num) (b := x.den)
  rw [dv_self] at this
  rw [← this, Rat.div_def, Rat.one_mul]
theorem qb_inv {a : Nat} {x : Rat} (h : Qb a x) (n : x ≠ 0) : Qb a (1 / x) := by
  rw [q_inv]
  exact qb_of (num_ne n) h.2 h.1
theorem qb_neg {a : Nat} {x : Rat} (h : Qb a x) : Qb a (-x) := by
  rw [← q_neg]
  exact qb_of (den_ne x) h.1.neg h.2
theorem qb_one {n : Nat} : Qb (n + 1) 1 := by
  have : Bd (n + 1) 1 := (bd_lit (n := 1) (by decide)).mono (by omega)
  exact ⟨this, this⟩
/-! ### compare, least, greatest -/
def cq (x y : Rat) : Int := if x < y then -1 else if y < x then 1 else 0
def qmin (x y : Rat) : Rat := if y < x then y else x
def qmax (x y : Rat) : Rat := if x < y then y else x
theorem cq_pos {x y : Rat} : 0 < cq x y ↔ y < x := by
  unfold cq
  split
  · constructor <;> intro h
    · omega
    · exact absurd (Rat.le_of_lt h) (Rat.not_le.mpr ‹_›)
  · split
    · simp_all
    · simp_all
theorem cq_neg {x y : Rat} : cq x y < 0 ↔ x < y := by
  unfold cq
  split
  · simp_all
  · split
    · simp_all
    · simp_all
theorem cq_le {x y : Rat} : cq x y ≤ 0 ↔ x ≤ y := by
  rw [← Int.not_lt, cq_pos, Rat.not_lt]
theorem cq_ge {x y : Rat} : 0 ≤ cq x y ↔ y ≤ x := by
  rw [← Int.not_lt, cq_neg, Rat.not_lt]
theorem qmin_qb {a : Nat} {x y : Rat} (h : Qb a x) (k : Qb a y) : Qb a (qmin x y) := by
  unfold qmin
  split <;> assumption
theorem qmax_qb {a : Nat} {x y : Rat} (h : Qb a x) (k : Qb a y) : Qb a (qmax x y) := by
  unfold qmax
  split <;> assumption
end DL
set_option Elab.async false
set_option linter.all false
set_option maxRecDepth 100000
/-! DQ: Ratio and Span by numbers: what their methods promise. -/
namespace DL
open PySem PySem.Spec L2
open PyProof.Rows hiding St
/-! ### Ratio -/
def S_init (C : Addr) : SpecD := fun ds m K _ => ∃ x m0 t b, ds = [.ref x, .int t, .int b] ∧ m = (x, .ins C [] []) :: m0 ∧ b ≠ 0 ∧ Bd 8000 b ∧ K .non ((x, .ins C ["top", "bottom"] [.int (rT t b), .int (rB t b)]) :: m0)
structure RatQ (b : Int) (K : Prop) : Prop where
  nz : b ≠ 0
  bd : Bd 8000 b
  k : K
section
variable {W : WX} {E : ET} {ta : TA} {r : Rho} {m : Mu} {K : KT} {C S : Addr}
theorem we_ratQ (h : Wa W E ta r m fun ds m1 => ∃ p q, ds = [.int p, .int q] ∧ RatQ q (K (rq C (dv p q)) m1)) : We W E (tMk C 3 (S_init C) [] W ta) r m K :=
  we_mk0 (h.imp fun ds m1 ⟨p, q, e, h0, hb, k⟩ => by
    subst e
    exact ⟨rfl, fun x _ => ⟨x, m1, p, q, rfl, rfl, h0, hb, _, _, rfl, rfl, by rw [(rT_dv h0).1, (rT_dv h0).2]; exact k⟩⟩)
theorem we_ratQ1 (h : Wa W E ta r m fun ds m1 => ∃ p, ds = [.int p] ∧ K (rq C (p : Rat)) m1) : We W E (tMk C 3 (S_init C) [.int 1] W ta) r m K :=
  we_mk1 rfl (h.imp fun ds m1 ⟨p, e, k⟩ => by
    subst e
    have e1 : rT p 1 = p := (rat_low (by decide) (Nat.gcd_one_right _)).1
    have e2 : rB p 1 = 1 := (rat_low (t := p) (by decide) (Nat.gcd_one_right _)).2
    exact ⟨rfl, fun x _ => ⟨x, m1, p, 1, rfl, rfl, by decide, bd_lit (by decide), _, _, rfl, rfl, by rw [e1, e2]; exact k⟩⟩)
def S_q2 (C : Addr) (f : Rat → Rat → Rat) : SpecD := fun ds m K _ => ∃ x y, ds = [rq C x, rq C y] ∧ Qb 3900 x ∧ Qb 3900 y ∧ K (rq C (f x y)) m
def S_qadd (C : Addr) : SpecD := S_q2 C (fun x y => x + y)
def S_qsub (C : Addr) : SpecD := S_q2 C (fun x y => x - y)
def S_qmul (C : Addr) : SpecD := S_q2 C (fun x y => x * y)
def S_qleast (C : Addr) : SpecD := S_q2 C qmin
def S_qgreat (C : Addr) : SpecD := S_q2 C qmax
def S_qdiv (C : Addr) : SpecD := fun ds m K _ => ∃ x y, ds = [rq C x, rq C y] ∧ Qb 3900 x ∧ Qb 3900 y ∧ y ≠ 0 ∧ K (rq C (x / y)) m
def S_qneg (C : Addr) : SpecD := fun ds m K _ => ∃ x, ds = [rq C x] ∧ Qb 3900 x ∧ K (rq C (-x)) m
def S_qcmp (C : Addr) : SpecD := fun ds m K _ => ∃ x y, ds = [rq C x, rq C y] ∧ Qb 3900 x ∧ Qb 3900 y ∧ K (.int (cq x y)) m
def S_qsign (C : Addr) : SpecD := fun ds m K _ => ∃ x, ds = [rq C x] ∧ K (.int (cq x 0)) m
variable {F : Ex → Mu → Prop} {x y x0 x1 y0 y1 : Rat}
theorem use_qadd (h : Qb 3900 x) (k : Qb 3900 y) (q : K (rq C (x + y)) m) : S_qadd C [rq C x, rq C y] m K F := ⟨x, y, rfl, h, k, q⟩
theorem use_qsub (h : Qb 3900 x) (k : Qb 3900 y) (q : K (rq C (x - y)) m) : S_qsub C [rq C x, rq C y] m K F := ⟨x, y, rfl, h, k, q⟩
theorem use_qmul (h : Qb 3900 x) (k : Qb 3900 y) (q : K (rq C (x * y)) m) : S_qmul C [rq C x, rq C y] m K F := ⟨x, y, rfl, h, k, q⟩
theorem use_qleast (h : Qb 3900 x) (k : Qb 3900 y) (q : K (rq C (qmin x y)) m) : S_qleast C [rq C x, rq C y] m K F := ⟨x, y, rfl, h, k, q⟩
theorem use_qgreat (h : Qb 3900 x) (k : Qb 3900 y) (q : K (rq C (qmax x y)) m) : S_qgreat C [rq C x, rq C y] m K F := ⟨x, y, rfl, h, k, q⟩
theorem use_qdiv (h : Qb 3900 x) (k : Qb 3900 y) (n : y ≠ 0) (q : K (rq C (x / y)) m) : S_qdiv C [rq C x, rq C y] m K F := ⟨x, y, rfl, h, k, n, q⟩
theorem use_qneg (h : Qb 3900 x) (q : K (rq C (-x)) m) : S_qneg C [rq C x] m K F := ⟨x, rfl, h, q⟩
theorem use_qcmp (h : Qb 3900 x) (k : Qb 3900 y) (q : K (.int (cq x y)) m) : S_qcmp C [rq C x, rq C y] m K F := ⟨x, y, rfl, h, k, q⟩
theorem use_qsign (q : K (.int (cq x 0)) m) : S_qsign C [rq C x] m K F := ⟨x, rfl, q⟩
/-! ### Span -/
abbrev spn (S C : Addr) (x y : Rat) : D := .ins S ["low", "high"] [rq C x, rq C y]
theorem fix_lo {a b : D} : fix "low" ["low", "high"] [a, b] = some a := by simp [fix]
theorem nhl : ¬ (("high" : Str) = "low") := by decide +kernel
theorem fix_hi {a b : D} : fix "high" ["low", "high"] [a, b] = some b := by simp [fix, nhl]
structure SpnC (K : PySem.W.Frag) (C : Addr) : Prop where
  ins : InsK K C
  al : NoAttr K C "low"
  ah : NoAttr K C "high"
section
variable {K : PySem.W.Frag} {KK : D → Prop} {C : Addr} {a b : D}
theorem fld_low (R : SpnC K C) (h : KK a) : ∃ C' ns ds x, D.ins C ["low", "high"] [a, b] = .ins C' ns ds ∧ Cls K C' ∧ NoAttr K C' "low" ∧ fix "low" ns ds = some x ∧ KK x := ⟨_, _, _, _, rfl, R.ins.cl, R.al, fix_lo, h⟩
theorem fld_high (R : SpnC K C) (h : KK b) : ∃ C' ns ds x, D.ins C ["low", "high"] [a, b] = .ins C' ns ds ∧ Cls K C' ∧ NoAttr K C' "high" ∧ fix "high" ns ds = some x ∧ KK x := ⟨_, _, _, _, rfl, R.ins.cl, R.ah, fix_hi, h⟩
variable {m0 : Mu} {x : Addr} {d e : D} {N : Mu → Prop}
theorem cont_lh : (["low"] : List Str).contains "high" = false := by decide +kernel
theorem setN_low (R : SpnC K C) (h : N ((x, .ins C ["low"] [d]) :: m0)) : ∃ p C' ns ds m3, D.ref x = .ref p ∧ At ((x, MO.ins C [] []) :: m0) p (.ins C' ns ds) ∧ Cls K C' ∧ NoAttr K C' "low" ∧ ns.contains "low" = false ∧ Nat.ble ns.length 900 = true ∧ Put ((x, MO.ins C [] []) :: m0) p (.ins C' (ns ++ [("low" : Str)]) (ds ++ [d])) m3 ∧ N m3 :=
  ⟨_, _, _, _, _, rfl, .head, R.ins.cl, R.al, rfl, rfl, .head, h⟩
theorem setN_high (R : SpnC K C) (h : N ((x, .ins C ["low", "high"] [d, e]) :: m0)) : ∃ p C' ns ds m3, D.ref x = .ref p ∧ At ((x, MO.ins C ["low"] [d]) :: m0) p (.ins C' ns ds) ∧ Cls K C' ∧ NoAttr K C' "high" ∧ ns.contains "high" = false ∧ Nat.ble ns.length 900 = true ∧ Put ((x, MO.ins C ["low"] [d]) :: m0) p (.ins C' (ns ++ [("high" : Str)]) (ds ++ [e])) m3 ∧ N m3 :=
  ⟨_, _, _, _, _, rfl, .head, R.ins.cl, R.ah, cont_lh, rfl, .head, h⟩
end
def S_sinit (S C : Addr) : SpecD := fun ds m K _ => ∃ x m0 a b, ds = [.ref x, rq C a, rq C b] ∧ m = (x, .ins S [] []) :: m0 ∧ a ≤ b ∧ Qb 3900 a ∧ Qb 3900 b ∧ K .non ((x, .ins S ["low", "high"] [rq C a, rq C b]) :: m0)
structure SpnA (x y : Rat) (K : Prop) : Prop where
  le : x ≤ y
  qx : Qb 3900 x
  qy : Qb 3900 y
  k : K
theorem we_spn (h : Wa W E ta r m fun ds m1 => ∃ x y, ds = [rq C x, rq C y] ∧ SpnA x y (K (spn S C x y) m1)) : We W E (tMk S 3 (S_sinit S C) [] W ta) r m K :=
  we_mk0 (h.imp fun ds m1 ⟨p, q, e, le, qx, qy, k⟩ => by
    subst e
    exact ⟨rfl, fun x _ => ⟨x, m1, p, q, rfl, rfl, le, qx, qy, _, _, rfl, rfl, k⟩⟩)
/-- two spans, of a size -/
structure Two (x0 x1 y0 y1 : Rat) : Prop where
  lx : x0 ≤ x1
  ly : y0 ≤ y1
  a0 : Qb 900 x0
  a1 : Qb 900 x1
  b0 : Qb 900 y0
  b1 : Qb 900 y1
abbrev F4 := Rat → Rat → Rat → Rat → Rat
def S_s2 (S C : Addr) (f g : F4) : SpecD := fun ds m K _ => ∃ x0 x1 y0 y1, ds = [spn S C x0 x1, spn S C y0 y1] ∧ Two x0 x1 y0 y1 ∧ K (spn S C (f x0 x1 y0 y1) (g x0 x1 y0 y1)) m
def q4min (a b c d : Rat) : Rat := qmin (qmin a b) (qmin c d)
def q4max (a b c d : Rat) : Rat := qmax (qmax a b) (qmax c d)
def addL : F4 := fun x0 _ y0 _ => x0 + y0
def addH : F4 := fun _ x1 _ y1 => x1 + y1
def subL : F4 := fun x0 _ _ y1 => x0 - y1
def subH : F4 := fun _ x1 y0 _ => x1 - y0
def mulL : F4 := fun x0 x1 y0 y1 => q4min (x0 * y0) (x0 * y1) (x1 * y0) (x1 * y1)
def mulH : F4 := fun x0 x1 y0 y1 => q4max (x0 * y0) (x0 * y1) (x1 * y0) (x1 * y1)
def leL : F4 := fun x0 _ y0 _ => qmin x0 y0
def leH : F4 := fun _ x1 _ y1 => qmin x1 y1
def grL : F4 := fun x0 _ y0 _ => qmax x0 y0
def grH : F4 := fun _ x1 _ y1 => qmax x1 y1
def divL : F4 := fun x0 x1 y0 y1 => mulL x0 x1 (1 / y1) (1 / y0)
def divH : F4 := fun x0 x1 y0 y1 => mulH x0 x1 (1 / y1) (1 / y0)
theorem use_s2 {f g : F4} (h : Two x0 x1 y0 y1) (k : K (spn S C (f x0 x1 y0 y1) (g x0 x1 y0 y1)) m) : S_s2 S C f g [spn S C x0 x1, spn S C y0 y1] m K F := ⟨_, _, _, _, rfl, h, k⟩
def S_sneg (S C : Addr) : SpecD := fun ds m K _ => ∃ x0 x1, ds = [spn S C x0 x1] ∧ x0 ≤ x1 ∧ Qb 900 x0 ∧ Qb 900 x1 ∧ K (spn S C (-x1) (-x0)) m
theorem use_sneg (h : x0 ≤ x1) (a : Qb 900 x0) (b : Qb 900 x1) (k : K (spn S C (-x1) (-x0)) m) : S_sneg S C [spn S C x0 x1] m K F := ⟨_, _, rfl, h, a, b, k⟩
def S_scont (S C : Addr) : SpecD := fun ds m K _ => ∃ x0 x1 x, ds = [spn S C x0 x1, rq C x] ∧ Qb 3900 x0 ∧ Qb 3900 x1 ∧ Qb 3900 x ∧ K (.bl (decide (x0 ≤ x ∧ x ≤ x1))) m
theorem use_scont (a : Qb 3900 x0) (b : Qb 3900 x1) (c : Qb 3900 x) (k : K (.bl (decide (x0 ≤ x ∧ x ≤ x1))) m) : S_scont S C [spn S C x0 x1, rq C x] m K F := ⟨_, _, _, rfl, a, b, c, k⟩
/-- the quotient, or ZeroBottom (class Z) -/
def S_sdiv (S C Z : Addr) : SpecD := fun ds m K E => ∃ x0 x1 y0 y1, ds = [spn S C x0 x1, spn S C y0 y1] ∧ Two x0 x1 y0 y1 ∧ ((y0 ≤ 0 ∧ 0 ≤ y1 ∧ E ⟨Z, [], []⟩ m) ∨ ((0 < y0 ∨ y1 < 0) ∧ K (spn S C (divL x0 x1 y0 y1) (divH x0 x1 y0 y1)) m))
theorem use_sdiv {Z : Addr} (h : Two x0 x1 y0 y1) (n : 0 < y0 ∨ y1 < 0) (k : K (spn S C (divL x0 x1 y0 y1) (divH x0 x1 y0 y1)) m) : S_sdiv S C Z [spn S C x0 x1, spn S C y0 y1] m K F := ⟨_, _, _, _, rfl, h, .inr ⟨n, k⟩⟩
/-! what is between -/
theorem q4_le {a b c d : Rat} : q4min a b c d ≤ q4max a b c d := by
  unfold q4min q4max qmin qmax
  grind
theorem q4min_qb {n : Nat} {a b c d : Rat} (ha : Qb n a) (hb : Qb n b) (hc : Qb n c) (hd : Qb n d) : Qb n (q4min a b c d) := qmin_qb (qmin_qb ha hb) (qmin_qb hc hd)
theorem q4max_qb {n : Nat} {a b c d : Rat} (ha : Qb n a) (hb : Qb n b) (hc : Qb n c) (hd : Qb n d) : Qb n (q4max a b c d) := qmax_qb (qmax_qb ha hb) (qmax_qb hc hd)
theorem qmin_le {a b c d : Rat} (h : a ≤ c) (k : b ≤ d) : qmin a b ≤ qmin c d := by
  unfold qmin
  grind
theorem qmax_le {a b c d : Rat} (h : a ≤ c) (k : b ≤ d) : qmax a b ≤ qmax c d := by
  unfold qmax
  grind
theorem inv_anti {a b : Rat} (h : a ≤ b) (n : 0 < a ∨ b < 0) : 1 / b ≤ 1 / a := by
  have na : a ≠ 0 := by grind
  have nb : b ≠ 0 := by grind
  have ea := Rat.div_mul_cancel (a := 1) na
  have eb := Rat.div_mul_cancel (a := 1) nb
  generalize 1 / a = u at *
  generalize 1 / b = v at *
  have e : (u - v) * (a * b) = b - a := by grind
  have p : 0 < a * b := by
    rcases n with n | n
    · exact Rat.mul_pos n (by grind)
    · have := Rat.mul_pos (a := -a) (b := -b) (by grind) (by grind)
      grind
  have q : 0 * (a * b) ≤ (u - v) * (a * b) := by rw [e]; grind
  have := Rat.le_of_mul_le_mul_right q p
  grind
end
end DL
set_option Elab.async false
set_option linter.all false
set_option maxRecDepth 100000
/-! DQ2: Ratio's own ==, rounding; pairs that stand for fractions. -/
namespace DL
open PySem PySem.Spec L2
open PyProof.Rows hiding St
section
variable {W : WX} {E : ET} {ta : TA} {r : Rho} {m : Mu} {K : KT} {C : Addr} {F : Ex → Mu → Prop} {x y : Rat} {G : Gx} {j k : Nat} {d' : D} {T : String}
/-- Ratio's own == -/
def S_qeq (G : Gx) (C : Addr) : SpecD := fun ds m K _ => ∃ x d', ds = [rq C x, d'] ∧ ((∃ y, d' = rq C y ∧ K (.bl (decide (x = y))) m) ∨ (∃ t, TyD G d' m t ∧ PySem.W.kitOne G.K t (.ref C) = some false ∧ K (.bl false) m))
theorem w2_qeq (O : Opr G k C "__eq__" 2 (S_qeq G C)) (hk : k ≤ j) (ic : InsK G.K C) (h : K (.bl (decide (x = y))) m) : W2 W E (oEqF G j W) (rq C x) (rq C y) r m K :=
  w2_eqFL O hk .fixed (.ins ic) nf_self ⟨x, rq C y, rfl, .inl ⟨y, rfl, h⟩⟩
theorem w2_qeqL (O : Opr G k C "__eq__" 2 (S_qeq G C)) (hk : k ≤ j) (Kc : KindsC G C) (b : BkD d' T) (h : K (.bl false) m) : W2 W E (oEqF G j W) (rq C x) d' r m K :=
  w2_eqFL O hk .fixed b.ty (Kc.nf T b.mem) ⟨x, d', rfl, .inr ⟨_, b.ty, Kc.kt T b.mem, h⟩⟩
theorem w2_qeqR (O : Opr G k C "__eq__" 2 (S_qeq G C)) (hk : k ≤ j) (Kc : KindsC G C) (b : BkD d' T) (h : K (.bl false) m) : W2 W E (oEqF G j W) d' (rq C x) r m K :=
  w2_eqFR O hk .fixed b (Kc.sb T b.mem) ⟨x, d', rfl, .inr ⟨_, b.ty, Kc.kt T b.mem, h⟩⟩
theorem q_eq : x = y ↔ x.num = y.num ∧ (x.den : Int) = y.den := by
  constructor
  · intro e
    subst e
    exact ⟨rfl, rfl⟩
  · intro h
    exact Rat.ext h.1 (Int.ofNat.inj h.2)
def S_qdown (C : Addr) : SpecD := fun ds m K _ => ∃ x, ds = [rq C x] ∧ Qb 3900 x ∧ K (.int (x.num / x.den)) m
def S_qup (C : Addr) : SpecD := fun ds m K _ => ∃ x, ds = [rq C x] ∧ Qb 3900 x ∧ K (.int (-(-x.num / x.den))) m
theorem use_qdown (h : Qb 3900 x) (q : K (.int (x.num / x.den)) m) : S_qdown C [rq C x] m K F := ⟨x, rfl, h, q⟩
theorem use_qup (h : Qb 3900 x) (q : K (.int (-(-x.num / x.den))) m) : S_qup C [rq C x] m K F := ⟨x, rfl, h, q⟩
end
/-- rounding, by any pair -/
theorem dv_floor {a b : Int} (hb : 0 < b) : (dv a b).num / ((dv a b).den : Int) = a / b := by
  obtain ⟨g, hg, e1, e2, hp⟩ := rat_eqs (t := a) (b := b) (by omega)
  have r := rT_dv (t := a) (b := b) (by omega)
  rw [← r.1, ← r.2]
  have gp : 0 < g := by
    refine Int.lt_of_not_ge fun z => ?_
    have : g * rB a b ≤ 0 := Int.mul_nonpos_of_nonpos_of_nonneg z (Int.le_of_lt hp)
    omega
  generalize rT a b = P at *
  generalize rB a b = Q at *
  subst e1 e2
  exact (Int.mul_ediv_mul_of_pos _ _ gp).symm
theorem dv_ceil {a b : Int} (hb : 0 < b) : -(-(dv a b).num / ((dv a b).den : Int)) = -(-a / b) := by
  have e := dv_floor (a := -a) hb
  rw [← neg_dv] at e
  rw [← e]
  rfl
theorem dv_int {a : Int} : dv a 1 = (a : Rat) := by
  rw [show dv a 1 = (a : Rat) / ((1 : Int) : Rat) from Rat.divInt_eq_div a 1]
  rw [Rat.div_def]
  have : (((1 : Int) : Rat))⁻¹ = 1 := Rat.inv_eq_of_mul_eq_one (by rw [Rat.mul_one]; rfl)
  rw [this, Rat.mul_one]
/-- a pair that stands for a fraction, of a size -/
structure Fr (n : Nat) (t b : Int) : Prop where
  pos : 0 < b
  bt : Bd n t
  bb : Bd n b
theorem Fr.mono {a b : Nat} {x y : Int} (h : Fr a x y) (l : a ≤ b) : Fr b x y := ⟨h.pos, h.bt.mono l, h.bb.mono l⟩
theorem Fr.plus {n k : Nat} {a b c d : Int} (h : Fr n a b) (q : Fr k c d) : Fr (n + k + 1) (a * d + c * b) (b * d) :=
  ⟨Int.mul_pos h.pos q.pos, (h.bt.mul q.bb).add ((q.bt.mul h.bb).mono (Nat.le_of_eq (Nat.add_comm _ _))), (h.bb.mul q.bb).mono (by omega)⟩
theorem Fr.minus {n k : Nat} {a b c d : Int} (h : Fr n a b) (q : Fr k c d) : Fr (n + k + 1) (a * d - c * b) (b * d) :=
  ⟨Int.mul_pos h.pos q.pos, (h.bt.mul q.bb).sub ((q.bt.mul h.bb).mono (Nat.le_of_eq (Nat.add_comm _ _))), (h.bb.mul q.bb).mono (by omega)⟩
theorem Fr.mul {n k : Nat} {a b c d : Int} (h : Fr n a b) (q : Fr k c d) : Fr (n + k) (a * c) (b * d) :=
  ⟨Int.mul_pos h.pos q.pos, h.bt.mul q.bt, h.bb.mul q.bb⟩
theorem bd_nat {n : Nat} {a : Int} (h : Bd n a) : Bd n (a.natAbs : Int) := by
  unfold Bd at *
  rwa [Int.natAbs_natCast]
theorem Fr.abs {n : Nat} {a b : Int} (h : Fr n a b) : Fr n (a.natAbs : Int) b := ⟨h.pos, bd_nat h.bt, h.bb⟩
theorem Fr.neg {n : Nat} {a b : Int} (h : Fr n a b) : Fr n (-a) b := ⟨h.pos, h.bt.neg, h.bb⟩
theorem Fr.qb {n : Nat} {a b : Int} (h : Fr n a b) : Qb n (dv a b) := qb_of (by have := h.pos; omega) h.bt h.bb
theorem fr_small {a b : Int} (h : a.natAbs ≤ 1000000000000) (k : 0 < b) (l : b ≤ 1000000000000) : Fr 40 a b := ⟨k, by unfold Bd; omega, by unfold Bd; omega⟩
theorem fr_one {n : Nat} {a : Int} (h : Bd n a) : Fr (n + 1) a 1 := ⟨by decide, h.mono (by omega), (bd_lit (n := 1) (by decide)).mono (by omega)⟩
theorem fr_zero : Fr 1 0 1 := ⟨by decide, bd_lit (by decide), bd_lit (by decide)⟩
theorem abs_nn {a b : Int} (h : 0 < b) : 0 ≤ dv (a.natAbs : Int) b := (dv_nonneg h).mpr (by omega)
theorem neg_np {a b : Int} (h : 0 < b) : dv (-(a.natAbs : Int)) b ≤ 0 := (dv_nonpos h).mpr (by omega)
theorem cq_dv {a b c d : Int} (hb : 0 < b) (hd : 0 < d) : cq (dv a b) (dv c d) = if a * d - c * b < 0 then -1 else if 0 < a * d - c * b then 1 else 0 := by
  unfold cq
  simp only [lt_dv hb hd, lt_dv hd hb]
  have e1 : a * d < c * b ↔ a * d - c * b < 0 := by omega
  have e2 : c * b < a * d ↔ 0 < a * d - c * b := by omega
  simp only [e1, e2]
theorem cq_self {x : Rat} : cq x x = 0 := by
  unfold cq
  grind
theorem cq_swap {x y : Rat} : cq y x = -cq x y := by
  unfold cq
  grind
theorem cq_zero {x y : Rat} : cq x y = 0 ↔ x = y := by
  unfold cq
  grind
theorem cq_num {x : Rat} : cq x 0 = cq x (dv 0 1) := rfl
end DL
set_option Elab.async false
set_option linter.all false
set_option maxRecDepth 100000
/-! DG: lists and tables of whole numbers; Grid. -/
namespace DL
open PySem PySem.Spec L2
open PyProof.Rows hiding St
abbrev li (xs : List Int) : D := .lst (xs.map D.int)
abbrev tup (xs : List Int) : D := .tup (xs.map D.int)
abbrev lli (rows : List (List Int)) : D := .lst (rows.map li)
abbrev tti (rows : List (List Int)) : D := .tup (rows.map tup)
theorem fix_hd {n : Str} {d : D} {ns : List Str} {ds : List D} : fix n (n :: ns) (d :: ds) = some d := by
  unfold fix
  rw [if_pos rfl]
theorem fix_tl {f n : Str} {d x : D} {ns : List Str} {ds : List D} (h : ¬ f = n) (k : fix f ns ds = some x) : fix f (n :: ns) (d :: ds) = some x := by
  unfold fix
  rw [if_neg h]
  exact k
section
variable {W : WX} {E : ET} {r : Rho} {m : Mu} {K : KT} {KI : List D → List Addr → Mu → Prop} {G : Gx} {ta : TA}
/-- the sum of a list that was made item by item -/
theorem wc_sumG {α : Type} {zs : List α} {g : α → Int} (h : K (.int (zs.map g).sum) m) : Wc W E (cSumF G) [.lst (zs.map fun a => .int (g a))] r m K :=
  wc_sumF .lst (by rw [List.map_map]; rfl) h
theorem wc_sumI {zs : List Int} (h : K (.int zs.sum) m) : Wc W E (cSumF G) [.lst (zs.map .int)] r m K := wc_sumF .lst rfl h
theorem zipD_map {α β : Type} (l1 : List α) (l2 : List β) (i1 : α → D) (i2 : β → D) : zipD (l1.map i1) (l2.map i2) = (l1.zip l2).map fun p => .tup [i1 p.1, i2 p.2] := by
  unfold zipD
  induction l1 generalizing l2 with
  | nil => simp
  | cons a l1 ih =>
    cases l2 with
    | nil => simp
    | cons b l2 => simp [ih l2]
theorem wi_zipM (h : Wa W E ta r m fun ds m1 => ∃ (x y : D) (ps qs : List Addr) (α β : Type) (l1 : List α) (l2 : List β) (i1 : α → D) (i2 : β → D), ds = [x, y] ∧ SeqM x m1 ps (l1.map i1) ∧ SeqM y m1 qs (l2.map i2) ∧
    KI ((l1.zip l2).map fun p => .tup [i1 p.1, i2 p.2]) (ps ++ qs) m1) : Wi W E (iZipS G.K ta) r m KI :=
  wi_zip (fun s H Q e z g => h s H Q e z fun ds m1 vs H1 a b c ⟨x, y, ps, qs, α, β, l1, l2, i1, i2, e1, e2, e3, k⟩ => g ds m1 vs H1 a b c ⟨x, y, ps, qs, _, _, e1, e2, e3, by rw [zipD_map]; exact k⟩)
end
theorem atI_get {α : Type} {xs : List α} {i : Nat} {d : α} (h : xs[i]? = some d) : atI xs (i : Int) = some d := by
  obtain ⟨hlt, e⟩ := List.getElem?_eq_some_iff.mp h
  unfold atI ixN
  rw [if_pos (by omega), if_pos (by omega)]
  exact h
theorem atI_hd {α : Type} {x : α} {xs : List α} : atI (x :: xs) 0 = some x := atI_get (i := 0) rfl
theorem get_map {α β : Type} {f : α → β} {l : List α} {i : Nat} {x : β} (h : (l.map f)[i]? = some x) : ∃ a, l[i]? = some a ∧ x = f a := by
  rw [List.getElem?_map] at h
  cases e : l[i]? with
  | none => rw [e] at h; cases h
  | some a => rw [e] at h; exact ⟨a, rfl, (Option.some.inj h).symm⟩
theorem get_map' {α β : Type} {f : α → β} {l : List α} {i : Nat} {x : β} (h : (l.map f)[i]? = some x) : ∃ a, l[i]? = some a ∧ f a = x := by
  obtain ⟨a, h1, h2⟩ := get_map h
  exact ⟨a, h1, h2.symm⟩
/-! ### common divisors -/
def gA (d : Nat) (xs : List Int) : Nat := xs.foldl (fun d x => d.gcd x.natAbs) d
theorem gA_nil {d : Nat} : gA d [] = d := rfl
theorem gA_cons {d : Nat} {x : Int} {xs : List Int} : gA d (x :: xs) = gA (d.gcd x.natAbs) xs := rfl
theorem gA_app {d : Nat} {xs ys : List Int} : gA d (xs ++ ys) = gA (gA d xs) ys := List.foldl_append ..
theorem gA_one : ∀ {xs : List Int}, gA 1 xs = 1
  | [] => rfl
  | x :: xs => by rw [gA_cons, Nat.gcd_one_left, gA_one]
theorem gA_dvd : ∀ {xs : List Int} {d : Nat}, gA d xs ∣ d ∧ ∀ x ∈ xs, gA d xs ∣ x.natAbs
  | [], d => ⟨Nat.dvd_refl _, fun _ h => nomatch h⟩
  | x :: xs, d => by
    obtain ⟨h1, h2⟩ := gA_dvd (xs := xs) (d := d.gcd x.natAbs)
    rw [gA_cons]
    refine ⟨Nat.dvd_trans h1 (Nat.gcd_dvd_left _ _), fun y hy => ?_⟩
    rcases List.mem_cons.mp hy with e | hy
    · subst e
      exact Nat.dvd_trans h1 (Nat.gcd_dvd_right _ _)
    · exact h2 y hy
theorem dvd_gA {n : Nat} : ∀ {xs : List Int} {d : Nat}, n ∣ d → (∀ x ∈ xs, n ∣ x.natAbs) → n ∣ gA d xs
  | [], _, h, _ => h
  | x :: xs, d, h, k => by
    rw [gA_cons]
    exact dvd_gA (Nat.dvd_gcd h (k x (List.mem_cons_self ..))) fun y hy => k y (List.mem_cons_of_mem _ hy)
theorem gA_pos {d : Nat} {xs : List Int} (h : 0 < d) : 0 < gA d xs := Nat.pos_of_dvd_of_pos gA_dvd.1 h
/-- what is left when all is divided by the common divisor has none -/
theorem gA_red {d : Nat} {xs : List Int} (h : 0 < d) : gA (d / gA d xs) (xs.map (· / (gA d xs : Int))) = 1 := by
  have gp := gA_pos (xs := xs) h
  obtain ⟨g1, g2⟩ := gA_dvd (xs := xs) (d := d)
  obtain ⟨h1, h2⟩ := gA_dvd (xs := xs.map (· / (gA d xs : Int))) (d := d / gA d xs)
  generalize hk : gA (d / gA d xs) (xs.map (· / (gA d xs : Int))) = k at *
  have a1 : k * gA d xs ∣ d := by
    have := Nat.mul_dvd_mul_right h1 (gA d xs)
    rwa [Nat.div_mul_cancel g1] at this
  have a2 : ∀ x ∈ xs, k * gA d xs ∣ x.natAbs := fun x hx => by
    have q := h2 _ (List.mem_map.mpr ⟨x, hx, rfl⟩)
    have e : (x / (gA d xs : Int)).natAbs = x.natAbs / gA d xs := natAbs_div gp (Int.ofNat_dvd_left.mpr (g2 x hx))
    rw [e] at q
    have := Nat.mul_dvd_mul_right q (gA d xs)
    rwa [Nat.div_mul_cancel (g2 x hx)] at this
  have a3 := dvd_gA a1 a2
  have a4 : k * gA d xs ≤ 1 * gA d xs := by
    rw [Nat.one_mul]
    exact Nat.le_of_dvd gp a3
  have a5 := Nat.le_of_mul_le_mul_right a4 gp
  have a6 : 0 < k := Nat.pos_of_dvd_of_pos h1 (Nat.div_pos (Nat.le_of_dvd h g1) gp)
  omega
/-! ### Grid -/
/-- h rows of w numbers; no columns where there are no rows -/
structure Rect (rows : List (List Int)) (w : Nat) : Prop where
  wid : ∀ r ∈ rows, r.length = w
  hl : rows.length ≤ 64
  wl : w ≤ 64
  ne : rows = [] → w = 0
def gcv (rows : List (List Int)) (over : Int) : Nat := gA over.natAbs rows.flatten
abbrev gN : List Str := ["rows", "over", "height", "width"]
abbrev gd (C : Addr) (rows : List (List Int)) (over : Int) (w : Nat) : D := .ins C gN [tti rows, .int over, .int (rows.length : Nat), .int (w : Nat)]
def redR (rows : List (List Int)) (g : Nat) : List (List Int) := rows.map fun r => r.map fun x => x / (g : Int)
theorem redR_len {rows : List (List Int)} {g : Nat} : (redR rows g).length = rows.length := by simp [redR]
theorem redR_one {rows : List (List Int)} : redR rows 1 = rows := by
  unfold redR
  have : (fun r : List Int => r.map fun x => x / ((1 : Nat) : Int)) = id := by
    funext r
    simp
  rw [this, List.map_id]
theorem gcv_pos {rows : List (List Int)} {over : Int} (h : 0 < over) : 0 < gcv rows over := gA_pos (by omega)
theorem gcv_dvd {rows : List (List Int)} {over : Int} : (gcv rows over : Int) ∣ over ∧ ∀ r ∈ rows, ∀ x ∈ r, (gcv rows over : Int) ∣ x :=
  ⟨Int.ofNat_dvd_left.mpr gA_dvd.1, fun r hr x hx => Int.ofNat_dvd_left.mpr (gA_dvd.2 x (List.mem_flatten.mpr ⟨r, hr, hx⟩))⟩
/-- the grid made of rows over a number -/
abbrev gdm (C : Addr) (rows : List (List Int)) (over : Int) (w : Nat) : D := gd C (redR rows (gcv rows over)) (over / (gcv rows over : Int)) w
structure GridC (K : PySem.W.Frag) (C : Addr) : Prop where
  ins : InsK K C
  n1 : NoAttr K C "rows"
  n2 : NoAttr K C "over"
  n3 : NoAttr K C "height"
  n4 : NoAttr K C "width"
theorem nOR : ¬ (("over" : Str) = "rows") := by decide +kernel
theorem nHR : ¬ (("height" : Str) = "rows") := by decide +kernel
theorem nHO : ¬ (("height" : Str) = "over") := by decide +kernel
theorem nWR : ¬ (("width" : Str) = "rows") := by decide +kernel
theorem nWO : ¬ (("width" : Str) = "over") := by decide +kernel
theorem nWH : ¬ (("width" : Str) = "height") := by decide +kernel
section
variable {K : PySem.W.Frag} {C : Addr} {KK : D → Prop} {a b c d : D} {m0 : Mu} {x : Addr} {N : Mu → Prop} {f : Str} {ns : List Str} {ds : List D}
theorem fld_rows (R : GridC K C) (h : KK a) : ∃ C' ns ds x, D.ins C gN [a, b, c, d] = .ins C' ns ds ∧ Cls K C' ∧ NoAttr K C' "rows" ∧ fix "rows" ns ds = some x ∧ KK x := ⟨_, _, _, _, rfl, R.ins.cl, R.n1, fix_hd, h⟩
theorem fld_over (R : GridC K C) (h : KK b) : ∃ C' ns ds x, D.ins C gN [a, b, c, d] = .ins C' ns ds ∧ Cls K C' ∧ NoAttr K C' "over" ∧ fix "over" ns ds = some x ∧ KK x := ⟨_, _, _, _, rfl, R.ins.cl, R.n2, fix_tl nOR fix_hd, h⟩
theorem fld_height (R : GridC K C) (h : KK c) : ∃ C' ns ds x, D.ins C gN [a, b, c, d] = .ins C' ns ds ∧ Cls K C' ∧ NoAttr K C' "height" ∧ fix "height" ns ds = some x ∧ KK x := ⟨_, _, _, _, rfl, R.ins.cl, R.n3, fix_tl nHR (fix_tl nHO fix_hd), h⟩
theorem fld_width (R : GridC K C) (h : KK d) : ∃ C' ns ds x, D.ins C gN [a, b, c, d] = .ins C' ns ds ∧ Cls K C' ∧ NoAttr K C' "width" ∧ fix "width" ns ds = some x ∧ KK x := ⟨_, _, _, _, rfl, R.ins.cl, R.n4, fix_tl nWR (fix_tl nWO (fix_tl nWH fix_hd)), h⟩
theorem setNG (cl : Cls K C) (na : NoAttr K C f) (hc : ns.contains f = false) (hb : Nat.ble ns.length 900 = true) (h : N ((x, .ins C (ns ++ [f]) (ds ++ [d])) :: m0)) : ∃ p C' ns' ds' m3, D.ref x = .ref p ∧ At ((x, MO.ins C ns ds) :: m0) p (.ins C' ns' ds') ∧ Cls K C' ∧ NoAttr K C' f ∧ ns'.contains f = false ∧ Nat.ble ns'.length 900 = true ∧ Put ((x, MO.ins C ns ds) :: m0) p (.ins C' (ns' ++ [f]) (ds' ++ [d])) m3 ∧ N m3 :=
  ⟨_, _, _, _, _, rfl, .head, cl, na, hc, hb, .head, h⟩
end
def S_shape : SpecD := fun ds m K _ => ∃ rows w, ds = [lli rows] ∧ Rect rows w ∧ K .non m
def S_cdiv : SpecD := fun ds m K _ => ∃ rows over, ds = [lli rows, .int over] ∧ 0 < over ∧ K (.int (gcv rows over : Nat)) m
def S_gmake (C : Addr) : SpecD := fun ds m K _ => ∃ x m0 rows over w, ds = [.ref x, lli rows, .int over] ∧ m = (x, .ins C [] []) :: m0 ∧ Rect rows w ∧ 0 < over ∧ Bd 8000 over ∧
  K .non ((x, .ins C gN [tti (redR rows (gcv rows over)), .int (over / (gcv rows over : Int)), .int (rows.length : Nat), .int (w : Nat)]) :: m0)
structure GrdA (rows : List (List Int)) (over : Int) (w : Nat) (K : Prop) : Prop where
  rc : Rect rows w
  op : 0 < over
  ob : Bd 8000 over
  k : K
section
variable {W : WX} {E : ET} {ta : TA} {r : Rho} {m : Mu} {K : KT} {C : Addr} {F : Ex → Mu → Prop} {rows : List (List Int)} {over : Int} {w : Nat}
theorem we_grd (h : Wa W E ta r m fun ds m1 => ∃ rows over w, ds = [lli rows, .int over] ∧ GrdA rows over w (K (gdm C rows over w) m1)) : We W E (tMk C 3 (S_gmake C) [] W ta) r m K :=
  we_mk0 (h.imp fun ds m1 ⟨rows, over, w, e, ⟨rc, op, ob, k⟩⟩ => by
    subst e
    refine ⟨rfl, fun x _ => ⟨x, m1, rows, over, w, rfl, rfl, rc, op, ob, _, _, rfl, rfl, ?_⟩⟩
    have e : rows.length = (redR rows (gcv rows over)).length := redR_len.symm
    rw [e]
    exact k)
theorem use_shape (h : Rect rows w) (k : K .non m) : S_shape [lli rows] m K F := ⟨rows, w, rfl, h, k⟩
theorem use_cdiv (h : 0 < over) (k : K (.int (gcv rows over : Nat)) m) : S_cdiv [lli rows, .int over] m K F := ⟨rows, over, rfl, h, k⟩
end
/-! ### products -/
theorem SeqM.len {d : D} {m : Mu} {ps : List Addr} {xs : List D} : SeqM d m ps xs → LenD d m xs.length
  | .lst => .lst
  | .tup => .tup
  | .mutb h => .mutb h
theorem SeqM.cons {d : D} {m : Mu} {ps : List Addr} {xs : List D} {q : Addr × MO} : SeqM d m ps xs → SeqM d (q :: m) ps xs
  | .lst => .lst
  | .tup => .tup
  | .mutb h => .mutb (.tail h)
def dot (xs ys : List Int) : Int := ((xs.zip ys).map fun p => p.1 * p.2).sum
def formV (rows : List (List Int)) (x y : List Int) : Int := ((x.zip rows).map fun p => p.1 * dot p.2 y).sum
theorem bd_sum {n : Nat} : ∀ {xs : List Int}, (∀ x ∈ xs, Bd n x) → Bd (n + xs.length) xs.sum
  | [], _ => Nat.two_pow_pos _
  | x :: xs, h => by
    have h1 := h x (List.mem_cons_self ..)
    have h2 := bd_sum (xs := xs) fun y hy => h y (List.mem_cons_of_mem _ hy)
    rw [List.sum_cons]
    exact ((h1.mono (Nat.le_add_right n xs.length)).add h2).mono (by simp; omega)
theorem dot_bd {a b : Nat} {xs ys : List Int} (hx : ∀ x ∈ xs, Bd a x) (hy : ∀ y ∈ ys, Bd b y) : Bd (a + b + xs.length) (dot xs ys) := by
  have h : Bd (a + b + ((xs.zip ys).map fun p => p.1 * p.2).length) (dot xs ys) := bd_sum fun z hz => by
    obtain ⟨p, hp, rfl⟩ := List.mem_map.mp hz
    obtain ⟨h1, h2⟩ := List.of_mem_zip hp
    exact (hx _ h1).mul (hy _ h2)
  refine h.mono ?_
  rw [List.length_map, List.length_zip]
  omega
/-- numbers of a size -/
def SzL (a : Nat) (xs : List Int) : Prop := ∀ x ∈ xs, Bd a x
def SzT (a : Nat) (rows : List (List Int)) : Prop := ∀ r ∈ rows, SzL a r
structure FrmA (rows : List (List Int)) (over : Int) (w : Nat) (left right : List Int) (K : Prop) : Prop where
  ll : left.length = rows.length
  lr : right.length = w
  rc : ∀ r ∈ rows, r.length = w
  wl : w ≤ 64
  op : over ≠ 0
  ob : Bd 8000 over
  sr : SzT 8000 rows
  s1 : SzL 8000 left
  s2 : SzL 8000 right
  k : K
def S_form (C R : Addr) : SpecD := fun ds m K _ => ∃ rows over w left right dl dr pl pr, ds = [gd C rows over w, dl, dr] ∧ SeqM dl m pl (left.map .int) ∧ SeqM dr m pr (right.map .int) ∧ FrmA rows over w left right (K (rq R (dv (formV rows left right) over)) m)
theorem use_form {C R : Addr} {m : Mu} {K : KT} {F : Ex → Mu → Prop} {rows : List (List Int)} {over : Int} {w : Nat} {left right : List Int} {dl dr : D} {pl pr : List Addr} (h1 : SeqM dl m pl (left.map .int)) (h2 : SeqM dr m pr (right.map .int)) (h : FrmA rows over w left right (K (rq R (dv (formV rows left right) over)) m)) :
    S_form C R [gd C rows over w, dl, dr] m K F := ⟨_, _, _, _, _, _, _, _, _, rfl, h1, h2, h⟩
theorem formV_snoc {rows : List (List Int)} {x y : List Int} {i : Nat} {p : Int × List Int} (h : (x.zip rows)[i]? = some p) : (((x.zip rows).take (i + 1)).map fun p => p.1 * dot p.2 y).sum = (((x.zip rows).take i).map fun p => p.1 * dot p.2 y).sum + p.1 * dot p.2 y := by
  rw [List.take_add_one, h]
  simp
/-! ### places -/
theorem ix_map {α : Type} [Inhabited α] {l : List α} {f : α → D} {i : Nat} (h : i < l.length) : atI (l.map f) (i : Int) = some (f l[i]!) :=
  atI_get (by rw [List.getElem?_map, getElem!_pos l i h, List.getElem?_eq_getElem h]; rfl)
theorem ix_map0 {α : Type} [Inhabited α] {l : List α} {f : α → D} (h : 0 < l.length) : atI (l.map f) 0 = some (f l[0]!) := ix_map (i := 0) h
theorem mem_at {α : Type} [Inhabited α] {l : List α} {i : Nat} (h : i < l.length) : l[i]! ∈ l := by
  rw [getElem!_pos l i h]
  exact List.getElem_mem h
/-- the number at a place -/
abbrev ce (rows : List (List Int)) (i j : Nat) : Int := (rows[i]!)[j]!
def SymR (n : Nat) (rows : List (List Int)) : Prop := ∀ i j, i < n → j < n → ce rows i j = ce rows j i
/-- the first place that differs from its opposite -/
structure FstA (n : Nat) (rows : List (List Int)) (i j : Nat) : Prop where
  hi : i < n
  hj : j < n
  ne : ce rows i j ≠ ce rows j i
  fst : ∀ i' j', i' < n → j' < n → (i' < i ∨ (i' = i ∧ j' < j)) → ce rows i' j' = ce rows j' i'
def S_csym (C Z1 Z2 : Addr) : SpecD := fun ds m K E => ∃ rows over w, ds = [gd C rows over w] ∧ (∀ r ∈ rows, r.length = w) ∧ rows.length ≤ 64 ∧ w ≤ 64 ∧
  ((rows.length ≠ w ∧ E ⟨Z1, [], []⟩ m) ∨ (rows.length = w ∧ SymR w rows ∧ K .non m) ∨ (rows.length = w ∧ ∃ i j, FstA w rows i j ∧ E ⟨Z2, ["column", "row"], [.int (j : Nat), .int (i : Nat)]⟩ m))
end DL
set_option Elab.async false
set_option linter.all false
set_option maxRecDepth 100000
/-! DL24: cuts of lists that were made by a function; stores in another order; lists appended to. -/
namespace DL
open PySem PySem.Spec L2
open PyProof.Rows hiding St
theorem sIx_nat {n : Nat} {j : Nat} {d : Nat} : HT.sIx n d (some (j : Int)) = min j n := by
  unfold HT.sIx
  dsimp only
  rw [if_neg (by omega)]
  omega
theorem cutD_pre {xs : List D} {j : Nat} : cutD xs none (some (j : Int)) = xs.take j := by
  unfold cutD
  rw [sIx_nat]
  have e : HT.sIx xs.length 0 none = 0 := rfl
  rw [e, List.drop_zero, Nat.sub_zero]
  by_cases h : j ≤ xs.length
  · rw [Nat.min_eq_left h]
  · rw [Nat.min_eq_right (by omega), List.take_length, List.take_of_length_le (by omega)]
theorem cutD_suf {xs : List D} {j : Nat} : cutD xs (some (j : Int)) none = xs.drop j := by
  unfold cutD
  rw [sIx_nat]
  have e : HT.sIx xs.length xs.length none = xs.length := rfl
  rw [e]
  by_cases h : j ≤ xs.length
  · rw [Nat.min_eq_left h, List.take_of_length_le (by rw [List.length_drop]; omega)]
  · rw [Nat.min_eq_right (by omega), List.drop_length, List.drop_of_length_le (by omega)]
    simp
section
variable {W : WX} {E : ET} {r : Rho} {m m2 : Mu} {K : KT} {G : Gx} {te t2 : TE} {t : TS} {P : DEnds}
structure SlA (j : Int) (K : Prop) : Prop where
  nn : 0 ≤ j
  k : K
/-- xs[:j] -/
theorem we_slPre (h : We W E te r m fun d m1 => ∃ (α : Type) (l : List α) (f : α → D), d = .lst (l.map f) ∧ We W E t2 r m1 fun i m2 => ∃ j : Int, i = .int j ∧ SlA j (K (.lst ((l.take j.toNat).map f)) m2)) :
    We W E (tSl (rSlL G.K) te tNoPart (tPart t2)) r m K :=
  we_slL (h.imp fun d m1 ⟨α, l, f, e, h2⟩ => ⟨_, e, wo_none (wo_some (h2.imp fun i m2 ⟨j, e2, ⟨h0, k⟩⟩ => ⟨j, e2, by
    obtain ⟨n, rfl⟩ := Int.eq_ofNat_of_zero_le h0
    rw [cutD_pre, ← List.map_take]
    exact k⟩))⟩)
/-- xs[j:] -/
theorem we_slSuf (h : We W E te r m fun d m1 => ∃ (α : Type) (l : List α) (f : α → D), d = .lst (l.map f) ∧ We W E t2 r m1 fun i m2 => ∃ j : Int, i = .int j ∧ SlA j (K (.lst ((l.drop j.toNat).map f)) m2)) :
    We W E (tSl (rSlL G.K) te (tPart t2) tNoPart) r m K :=
  we_slL (h.imp fun d m1 ⟨α, l, f, e, h2⟩ => ⟨_, e, wo_some (h2.imp fun i m2 ⟨j, e2, ⟨h0, k⟩⟩ => ⟨j, e2, wo_none (by
    obtain ⟨n, rfl⟩ := Int.eq_ofNat_of_zero_le h0
    rw [cutD_suf, ← List.map_drop]
    exact k)⟩)⟩)
theorem Ws.perm (p : m.Perm m2) (h : Ws W E t r m2 P) : Ws W E t r m P := fun s H De e z g => by
  obtain ⟨mu, hd⟩ := e.mu.perm p
  have e2 : EnvR r m2 s H := ⟨by rw [hd]; exact e.env, mu⟩
  have z2 : Rz W E m2 H := fun x r' m' cls dd s' H' a => z x r' m' cls dd s' H' (by rw [← hd]; exact a)
  exact h s H De e2 z2 ⟨fun r' m' s' H' a => g.nx r' m' s' H' (by rw [← hd]; exact a), fun d m' v H' a => g.rt d m' v H' (by rw [← hd]; exact a), fun r' m' s' H' a => g.bk r' m' s' H' (by rw [← hd]; exact a), fun r' m' s' H' a => g.ct r' m' s' H' (by rw [← hd]; exact a)⟩
end
theorem perm_mat {t : Addr} {qs : List Addr} {xss : List (List D)} {q : Addr × MO} {m : Mu} : (matM t qs xss (q :: m)).Perm (q :: matM t qs xss m) := by
  rw [matM_eq, matM_eq]
  exact List.perm_middle
theorem frz_in {own : Mu} {t : Addr} {qs : List Addr} {xss : List (List D)} (h : qs.length = xss.length) (k : ∀ q ∈ matO t qs xss, At own q.1 q.2) : Frz own (.ref t) (.lst (xss.map .lst)) :=
  .ref (k (t, _) (List.mem_append_right _ (List.mem_cons_self ..))) (frz_rows h fun q hq => k q (List.mem_append_left _ hq))
theorem frz_mat1 {t : Addr} {qs : List Addr} {xss : List (List D)} {q : Addr × MO} {m : Mu} (h : qs.length = xss.length) : Frz (q :: matM t qs xss m) (.ref t) (.lst (xss.map .lst)) :=
  frz_in h fun p hp => .tail (by rw [matM_eq]; exact (At.of_mem hp).app)
end DL
set_option Elab.async false
set_option linter.all false
set_option maxRecDepth 100000
/-! DL25: == of lists and tables of whole numbers. -/
namespace DL
open PySem PySem.Spec L2
open PyProof.Rows hiding St
theorem pds_ints : ∀ xs : List Int, PDs (xs.map D.int) (xs.map PyData.int)
  | [] => .nil
  | x :: xs => .cons (.int x) (pds_ints xs)
theorem pd_li (xs : List Int) : PD (li xs) (.list (xs.map PyData.int)) := .lst (pds_ints xs)
theorem pd_tup (xs : List Int) : PD (tup xs) (.tuple (xs.map PyData.int)) := .tup (pds_ints xs)
def pdR (rows : List (List Int)) : List PyData := rows.map fun r => .list (r.map PyData.int)
theorem pds_rows : ∀ rows : List (List Int), PDs (rows.map li) (pdR rows)
  | [] => .nil
  | r :: rows => .cons (pd_li r) (pds_rows rows)
theorem pd_lli (rows : List (List Int)) : PD (lli rows) (.list (pdR rows)) := .lst (pds_rows rows)
theorem eqv_ints : ∀ xs ys : List Int, PyData.eqvAll (xs.map PyData.int) (ys.map PyData.int) = decide (xs = ys)
  | [], [] => by simp [PyData.eqvAll]
  | [], _ :: _ => by simp [PyData.eqvAll]
  | _ :: _, [] => by simp [PyData.eqvAll]
  | a :: xs, b :: ys => by
    simp only [List.map_cons, PyData.eqvAll, PyData.eqv, eqv_ints xs ys]
    by_cases h : a = b <;> by_cases h' : xs = ys <;> simp [h, h']
theorem eqv_rows : ∀ xs ys : List (List Int), PyData.eqvAll (pdR xs) (pdR ys) = decide (xs = ys)
  | [], [] => by simp [pdR, PyData.eqvAll]
  | [], _ :: _ => by simp [pdR, PyData.eqvAll]
  | _ :: _, [] => by simp [pdR, PyData.eqvAll]
  | a :: xs, b :: ys => by
    have ih := eqv_rows xs ys
    unfold pdR at *
    simp only [List.map_cons, PyData.eqvAll, PyData.eqv, ih, eqv_ints a b]
    by_cases h : a = b <;> by_cases h' : xs = ys <;> simp [h, h']
theorem lay_ints : ∀ xs : List Int, PyData.canLayAll0 (xs.map PyData.int) = true
  | [] => by simp [PyData.canLayAll0]
  | x :: xs => by simp [PyData.canLayAll0, PyData.canLay0, lay_ints xs]
theorem lay_rows : ∀ xs : List (List Int), PyData.canLayAll0 (pdR xs) = true
  | [] => by simp [pdR, PyData.canLayAll0]
  | x :: xs => by
    have ih := lay_rows xs
    unfold pdR at *
    simp [PyData.canLayAll0, PyData.canLay0, ih, lay_ints x]
theorem dep_ints : ∀ xs : List Int, PyData.depthAll (xs.map PyData.int) ≤ 1
  | [] => by simp [PyData.depthAll]
  | x :: xs => by
    have := dep_ints xs
    simp [PyData.depthAll, PyData.depth]
    omega
theorem dep_rows : ∀ xs : List (List Int), PyData.depthAll (pdR xs) ≤ 3
  | [] => by simp [pdR, PyData.depthAll]
  | x :: xs => by
    have h := dep_rows xs
    have h2 := dep_ints x
    unfold pdR at *
    simp [PyData.depthAll, PyData.depth]
    omega
theorem sh_li (xs : List Int) : PySem.SeqAt.shaped (.list (xs.map PyData.int)) = true := by
  have := dep_ints xs
  simp [PySem.SeqAt.shaped, PyData.canLay0, lay_ints xs, PyData.depth]
  omega
theorem sh_tup (xs : List Int) : PySem.SeqAt.shaped (.tuple (xs.map PyData.int)) = true := by
  have := dep_ints xs
  simp [PySem.SeqAt.shaped, PyData.canLay0, lay_ints xs, PyData.depth]
  omega
theorem sh_lli (xs : List (List Int)) : PySem.SeqAt.shaped (.list (pdR xs)) = true := by
  have := dep_rows xs
  simp [PySem.SeqAt.shaped, PyData.canLay0, lay_rows xs, PyData.depth]
  omega
section
variable {W : WX} {E : ET} {r : Rho} {m : Mu} {K : KT} {G : Gx} {j : Nat}
theorem w2_eqLi {xs ys : List Int} (h : K (.bl (decide (xs = ys))) m) : W2 W E (oEqF G j W) (li xs) (li ys) r m K :=
  w2_eqFD (pd_li xs) (pd_li ys) (sh_li xs) (sh_li ys) (by rw [PyData.eqv, eqv_ints]; exact h)
theorem w2_eqTup {xs ys : List Int} (h : K (.bl (decide (xs = ys))) m) : W2 W E (oEqF G j W) (tup xs) (tup ys) r m K :=
  w2_eqFD (pd_tup xs) (pd_tup ys) (sh_tup xs) (sh_tup ys) (by rw [PyData.eqv, eqv_ints]; exact h)
theorem w2_eqLli {xs ys : List (List Int)} (h : K (.bl (decide (xs = ys))) m) : W2 W E (oEqF G j W) (lli xs) (lli ys) r m K :=
  w2_eqFD (pd_lli xs) (pd_lli ys) (sh_lli xs) (sh_lli ys) (by rw [PyData.eqv, eqv_rows]; exact h)
theorem w2_eqRN {xs : List (List Int)} (h : K (.bl (decide (xs = []))) m) : W2 W E (oEqF G j W) (lli xs) (.lst []) r m K := w2_eqLli (ys := []) h
theorem w2_eqLN {xs : List Int} (h : K (.bl (decide (xs = []))) m) : W2 W E (oEqF G j W) (li xs) (.lst []) r m K := w2_eqLi (ys := []) h
end
end DL
set_option Elab.async false
set_option linter.all false
set_option maxRecDepth 100000
/-! DL26: errors whose own __init__ has a promise of its own; isinstance with a tuple of types. -/
namespace DL
open PySem PySem.Spec L2
open PyProof.Rows hiding St
def cIsiT (G : Gx) : OC := fun xs _ H Q => rIsiT G.K xs H Q
theorem cs_isiT {X : Cx} : CallS X (.builtin "isinstance") (cIsiT (Gx.of X)) := CallS.of call_isiT
theorem kit_any0 {K : PySem.W.Frag} {t : Value} : PySem.W.kitAny K t [] = some false := rfl
theorem kit_anyF {K : PySem.W.Frag} {t c : Value} {r : List Value} (h : PySem.W.kitOne K t c = some false) (k : PySem.W.kitAny K t r = some false) : PySem.W.kitAny K t (c :: r) = some false := by
  show (match PySem.W.kitOne K t c with | some true => some true | some false => PySem.W.kitAny K t r | none => none) = _
  rw [h]
  exact k
structure ExcS (G : Gx) (x : Str) (C : Addr) (sp : Sp) : Prop where
  ex : ∃ (f : Addr) (fd : FuncData) (ps : List Str), FnOk G.P G.w G.K G.mg G.base CX0 1 f fd ps sp ∧ Binds G.K fd ps [] ∧ PySem.W.findIn G.K (.ref C) "__init__" = some (some (.ref f)) ∧ PySem.W.typeIn G.K (.ref f) = some (.type "function")
  ox : OexC G.K C
  mgC : G.mg x = some (.ref C)
section
variable {X : Cx} {W : WX} {E : ET} {x : Str} {C : Addr} {sp : Sp} {e : Expr} {es : List Expr} {ta : TA} {p pos pos' : Pos} {j : Nat}
theorem pmkN_oexS (c : ExcS (Gx.of X) x C sp) (hr : Room j X.A) (hj : 2 ≤ j) (hg : Gl X x) (ha : PA X (e :: es) ta)
    (hdb : (x == ("__debug__" : Str)) = false := by decide) (he : starEach (e :: es) X.env = (false, eval e X.env) :: starEach es X.env := by rfl) (hpl : (backTo pos (starEach es X.env)).any (·.1) = false := by rfl) :
    L2N.PMk X (.Call (.Name x p) (e :: es) [] pos) (tMkO C sp [] ta) := by
  intro pins s σ H Q I h
  obtain ⟨fI, fd, ps, F1, hb, iC, tI⟩ := c.ex
  have T := c.ox
  obtain ⟨nm, q, N, bs, bm, sn, sub, ab, col, dd, k0, k1, k2, k3, k5, hC, hbm⟩ := T.cls
  refine wpAny_Call_Name_kw (ld_glob I hg c.mgC ?_ hdb)
  refine PySem.W.callWith_K (h₀ := X.base) I.ok.mod.kin T.kC (thn (ha.run pos pins s σ H _ I h) fun us s1 ⟨vs, H1, I1, r1, hz, q1⟩ => ⟨I1.kIn, ?_⟩) he hpl
  show wpAny _ _ (call (.ref C) us) _ _ _
  obtain ⟨hp, g, dr, tk, os⟩ := s1
  have hsz : hp.objs.size ≤ hp.objs.size + 1 := Nat.le_succ _
  have hn : H1 (hp.objs.size + 1) = none := I1.hok.fresh hsz
  have hq := q1 (hp.objs.size + 1) hn
  rw [List.append_nil] at hq
  have kk : ∀ b o, hp.get? b = some o → ((hp.push (PySem.W.kdv_tup us)).push (PySem.HandSPX.excO C hp.objs.size)).get? b = some o := fun b o e => Heap.get?_push_of_some _ (Heap.get?_push_of_some _ e)
  have hget : ((hp.push (PySem.W.kdv_tup us)).push (PySem.HandSPX.excO C hp.objs.size)).get? (hp.objs.size + 1) = some (PySem.HandSPX.excO C hp.objs.size) := by heap_get
  have I2 : Inv X pins σ (upd H1 (hp.objs.size + 1) (exo (hp.objs.size + 1) C none)) ⟨(hp.push (PySem.W.kdv_tup us)).push (PySem.HandSPX.excO C hp.objs.size), g, dr, tk, os⟩ :=
    I1.laid (t' := tk) (a := hp.objs.size + 1) (o := exo (hp.objs.size + 1) C none) (h' := (hp.push (PySem.W.kdv_tup us)).push (PySem.HandSPX.excO C hp.objs.size)) kk hsz (exo_ok hget)
  have r2 : Vals (V.ref (hp.objs.size + 1) :: vs) (Value.ref (hp.objs.size + 1) :: us) := .cons rfl r1
  have hl : (Value.ref (hp.objs.size + 1) :: us ++ []).length = ps.length := by
    have e := r2.length
    rw [F1.len _ _ _ _ hq] at e
    rw [List.append_nil]
    exact e.symm
  have hus : us.length ≤ sizeLine := by
    rw [← Paired.length r1, sizeLine_eq]
    omega
  have b2 := hb _ (Value.ref (hp.objs.size + 1) :: us) I2.kIn hl
  rw [List.append_nil] at b2
  refine wpAny_call (PySem.HandSPX.call_own F.excBase_ValueError (fun Y => PySem.HandSPX.refsVE_contains Y bm hbm) (I1.kIn _ _ hC) (PySem.W.looks_findIn I1.kIn iC) (fun self => PySem.W.bind_fn I1.kIn self tI) hus
    (codeAny_mono (F1.run _ X.stack _ _ ⟨Value.ref (hp.objs.size + 1) :: us, []⟩ (Value.ref (hp.objs.size + 1) :: us) _ _ (fun _ _ _ => False) ((hr.mono hj).make C us []) (I2.env0.make C us []) b2 r2 hq) fun r s' hq' => ?_))
  cases r with
  | error er => exact False.elim hq'
  | ok fl =>
    cases fl with
    | ret u =>
      obtain ⟨v, H2, os2, bare2, un2, hok2, rv, ev, d, fs, ea, ed, hd1, q2⟩ := hq'
      subst ev
      obtain ⟨h2, g2, d2, t2, os'⟩ := s'
      obtain ⟨t0, G, J, kG, ge, hoe, na⟩ := mk_end0 (d2 := d2) (t2 := t2) I1 hsz kk un2 hok2 os2 bare2 ea ed hd1
      exact ⟨rv, ⟨_, _, _, ⟨G, g2, d2, t2, os'⟩, _, .ref C, some d, rfl, J, kG, ge, hoe, ⟨rfl, rfl, fun vs e => by cases e; rfl⟩, rfl, rfl, na, rfl, bare2, raises_own T.exC T.tyC, q2⟩⟩
    | next => exact False.elim hq'
    | brk => exact False.elim hq'
    | cont => exact False.elim hq'
def tRsS (C : Addr) (sp : Sp) (W : WX) (ta : TA) : TS := fun _ σ H => tMkO C sp [] ta σ H fun cls d H' => W cls d σ H'
theorem ps_rsS (c : ExcS (Gx.of X) x C sp) (hc : X.calm = true) (hr : Room j X.A) (hj : 2 ≤ j) (tk : L2N.Takes X W) (hg : Gl X x) (ha : PA X (e :: es) ta)
    (hdb : (x == ("__debug__" : Str)) = false := by decide) (he : starEach (e :: es) X.env = (false, eval e X.env) :: starEach es X.env := by rfl) (hpl : (backTo pos (starEach es X.env)).any (·.1) = false := by rfl) :
    PS X (.Raise (some (.Call (.Name x p) (e :: es) [] pos)) none pos') (tRsS C sp W ta) := L2N.ps_raise hc tk (pmkN_oexS c hr hj hg ha hdb he hpl)
end
/-- one argument, a whole number, is kept in the field n -/
def spXP (C : Addr) (n : Str) : Sp := fun vs H Q _ => ∃ (a : Addr) (i : Int), vs = [.ref a, .int i] ∧ H a = some (exo a C none) ∧
  ∀ d H', H d = none → d ≠ a → (∀ b, b ≠ a → b ≠ d → H b ≠ none → H' b = H b) → H' a = some (exo a C (some d)) → H' d = some (exd d [(n, .int i)]) → Q .non H'
section
variable {W : WX} {E : ET} {C : Addr} {n : Str} {ta : TA} {r : Rho} {m : Mu} {P : DEnds}
theorem ws_rsS (h : Wa W E ta r m fun ds m1 => ∃ i : Int, ds = [.int i] ∧ E ⟨C, [n], [.int i]⟩ r m1) : Ws W E (tRsS C (spXP C n) W ta) r m P := fun s H De e z g =>
  h s H _ e z fun ds m1 vs H1 s1 mu1 r1 ⟨i, hd, q⟩ => by
    subst hd
    cases r1 with
    | cons ri rn =>
      cases rn
      cases ri
      refine ⟨by show 1 ≤ 1000; decide, fun a ha => ?_⟩
      refine ⟨a, i, rfl, upd_same, fun d H' hd hne hs h1 h2 => ⟨rfl, d, _, h1, h2, ?_, ?_⟩⟩
      · rw [upd_ne hne] at hd
        exact hd
      · rw [upd_ne hne] at hd
        have hd' : H1 d = none := hd
        have st : Stp (dom m1) H1 (dom m1) (upd (del H' a) d (.xd [(n, .int i)])) := fun b o hb hm => by
          have nbd : b ≠ d := fun e => by rw [e, hd'] at hb; cases hb
          have nba : b ≠ a := fun e => by rw [e, ha] at hb; cases hb
          rw [upd_ne nbd, del_ne nba, hs b nba nbd (by rw [upd_ne nba, hb]; exact fun z => nomatch z), upd_ne nba]
          exact ⟨hb, hm⟩
        have mu : MutR m1 (upd (del H' a) d (.xd [(n, .int i)])) := ⟨mu1.nd, fun q hq => (mu1.at_ q hq).mono st fun u hu => by
          have nbd : q.1 ≠ d := fun e => by rw [e, hd'] at hu; cases hu
          have nba : q.1 ≠ a := fun e => by rw [e, ha] at hu; cases hu
          rw [upd_ne nbd, del_ne nba, hs _ nba nbd (by rw [upd_ne nba, hu]; exact fun z => nomatch z), upd_ne nba]
          exact hu⟩
        have nd : ¬ dom m1 d := fun zz => by obtain ⟨u, hu⟩ := mu1.there zz; rw [hd'] at hu; cases hu
        exact z _ r m1 _ _ s _ (s1.trans st) (e.step (s1.trans st) mu) ⟨rfl, .inr ⟨d, _, rfl, upd_same, nd, .cons (.int _) .nil⟩⟩ q
end
end DL
set_option Elab.async false
set_option linter.all false
set_option maxRecDepth 100000
set_option maxHeartbeats 4000000
namespace K10
open PySem PySem.Spec L2 DL
open PyProof.Rows hiding St
def top (i : Nat) : Stmt := PySem.Challenge.pw_fewcarry_k10_columns_and_mixtures.main.body.getD i (.Pass ⟨0, 0, 0, 0⟩)
abbrev s_BadPlace___init__ : Stmt := inClass (top 8) 0
abbrev s_Ratio___init__ : Stmt := inClass (top 16) 0
abbrev s__first_filled : Stmt := top 18
abbrev s__cleared : Stmt := top 19
abbrev s_pivot_columns : Stmt := top 20
abbrev s_reduced : Stmt := top 21
abbrev s__check_shape : Stmt := top 24
abbrev s__common_divisor : Stmt := top 25
abbrev s_Grid___init__ : Stmt := inClass (top 27) 0
abbrev s_independent_columns : Stmt := top 29
abbrev s_rank : Stmt := top 30
abbrev s_mixture : Stmt := top 31
abbrev s__law_start : Stmt := top 33
abbrev s__law_digit : Stmt := top 34
abbrev s__law_number : Stmt := top 35
abbrev s__law_more : Stmt := top 36
abbrev s__law_table : Stmt := top 37
abbrev s__law_cleared : Stmt := top 38
abbrev s__law_independent : Stmt := top 39
abbrev s__law_whole : Stmt := top 40
abbrev s__law_pair : Stmt := top 41
abbrev s__law_is_mixture : Stmt := top 42
abbrev s__law_bad_place : Stmt := top 43
abbrev s__law_is_list : Stmt := top 44
abbrev s_law : Stmt := top 45

theorem nd_self : (("self" : Str) == ("__debug__" : Str)) = false ∧ (("self" : Str) == ("__classdict__" : Str)) = false := ⟨by decide +kernel, by decide +kernel⟩
theorem nd_place : (("place" : Str) == ("__debug__" : Str)) = false ∧ (("place" : Str) == ("__classdict__" : Str)) = false := ⟨by decide +kernel, by decide +kernel⟩
theorem nd_top : (("top" : Str) == ("__debug__" : Str)) = false ∧ (("top" : Str) == ("__classdict__" : Str)) = false := ⟨by decide +kernel, by decide +kernel⟩
theorem nd_bottom : (("bottom" : Str) == ("__debug__" : Str)) = false ∧ (("bottom" : Str) == ("__classdict__" : Str)) = false := ⟨by decide +kernel, by decide +kernel⟩
theorem nd_shared : (("shared" : Str) == ("__debug__" : Str)) = false ∧ (("shared" : Str) == ("__classdict__" : Str)) = false := ⟨by decide +kernel, by decide +kernel⟩
theorem nd_table : (("table" : Str) == ("__debug__" : Str)) = false ∧ (("table" : Str) == ("__classdict__" : Str)) = false := ⟨by decide +kernel, by decide +kernel⟩
theorem nd_start : (("start" : Str) == ("__debug__" : Str)) = false ∧ (("start" : Str) == ("__classdict__" : Str)) = false := ⟨by decide +kernel, by decide +kernel⟩
theorem nd_column : (("column" : Str) == ("__debug__" : Str)) = false ∧ (("column" : Str) == ("__classdict__" : Str)) = false := ⟨by decide +kernel, by decide +kernel⟩
theorem nd_row : (("row" : Str) == ("__debug__" : Str)) = false ∧ (("row" : Str) == ("__classdict__" : Str)) = false := ⟨by decide +kernel, by decide +kernel⟩
theorem nd_head : (("head" : Str) == ("__debug__" : Str)) = false ∧ (("head" : Str) == ("__classdict__" : Str)) = false := ⟨by decide +kernel, by decide +kernel⟩
theorem nd_divisor : (("divisor" : Str) == ("__debug__" : Str)) = false ∧ (("divisor" : Str) == ("__classdict__" : Str)) = false := ⟨by decide +kernel, by decide +kernel⟩
theorem nd_pivot : (("pivot" : Str) == ("__debug__" : Str)) = false ∧ (("pivot" : Str) == ("__classdict__" : Str)) = false := ⟨by decide +kernel, by decide +kernel⟩
theorem nd_multiple : (("multiple" : Str) == ("__debug__" : Str)) = false ∧ (("multiple" : Str) == ("__classdict__" : Str)) = false := ⟨by decide +kernel, by decide +kernel⟩
theorem nd_x : (("x" : Str) == ("__debug__" : Str)) = false ∧ (("x" : Str) == ("__classdict__" : Str)) = false := ⟨by decide +kernel, by decide +kernel⟩
theorem nd_y : (("y" : Str) == ("__debug__" : Str)) = false ∧ (("y" : Str) == ("__classdict__" : Str)) = false := ⟨by decide +kernel, by decide +kernel⟩
theorem nd_rows : (("rows" : Str) == ("__debug__" : Str)) = false ∧ (("rows" : Str) == ("__classdict__" : Str)) = false := ⟨by decide +kernel, by decide +kernel⟩
theorem nd_width : (("width" : Str) == ("__debug__" : Str)) = false ∧ (("width" : Str) == ("__classdict__" : Str)) = false := ⟨by decide +kernel, by decide +kernel⟩
theorem nd_left : (("left" : Str) == ("__debug__" : Str)) = false ∧ (("left" : Str) == ("__classdict__" : Str)) = false := ⟨by decide +kernel, by decide +kernel⟩
theorem nd_pivots : (("pivots" : Str) == ("__debug__" : Str)) = false ∧ (("pivots" : Str) == ("__classdict__" : Str)) = false := ⟨by decide +kernel, by decide +kernel⟩
theorem nd_rest : (("rest" : Str) == ("__debug__" : Str)) = false ∧ (("rest" : Str) == ("__classdict__" : Str)) = false := ⟨by decide +kernel, by decide +kernel⟩
theorem nd_scale : (("scale" : Str) == ("__debug__" : Str)) = false ∧ (("scale" : Str) == ("__classdict__" : Str)) = false := ⟨by decide +kernel, by decide +kernel⟩
theorem nd_done : (("done" : Str) == ("__debug__" : Str)) = false ∧ (("done" : Str) == ("__classdict__" : Str)) = false := ⟨by decide +kernel, by decide +kernel⟩
theorem nd_other : (("other" : Str) == ("__debug__" : Str)) = false ∧ (("other" : Str) == ("__classdict__" : Str)) = false := ⟨by decide +kernel, by decide +kernel⟩
theorem nd_over : (("over" : Str) == ("__debug__" : Str)) = false ∧ (("over" : Str) == ("__classdict__" : Str)) = false := ⟨by decide +kernel, by decide +kernel⟩
theorem nd_number : (("number" : Str) == ("__debug__" : Str)) = false ∧ (("number" : Str) == ("__classdict__" : Str)) = false := ⟨by decide +kernel, by decide +kernel⟩
theorem nd_grid : (("grid" : Str) == ("__debug__" : Str)) = false ∧ (("grid" : Str) == ("__classdict__" : Str)) = false := ⟨by decide +kernel, by decide +kernel⟩
theorem nd__ : (("_" : Str) == ("__debug__" : Str)) = false ∧ (("_" : Str) == ("__classdict__" : Str)) = false := ⟨by decide +kernel, by decide +kernel⟩
theorem nd_script : (("script" : Str) == ("__debug__" : Str)) = false ∧ (("script" : Str) == ("__classdict__" : Str)) = false := ⟨by decide +kernel, by decide +kernel⟩
theorem nd_cell : (("cell" : Str) == ("__debug__" : Str)) = false ∧ (("cell" : Str) == ("__classdict__" : Str)) = false := ⟨by decide +kernel, by decide +kernel⟩
theorem nd_pot : (("pot" : Str) == ("__debug__" : Str)) = false ∧ (("pot" : Str) == ("__classdict__" : Str)) = false := ⟨by decide +kernel, by decide +kernel⟩
theorem nd_many : (("many" : Str) == ("__debug__" : Str)) = false ∧ (("many" : Str) == ("__classdict__" : Str)) = false := ⟨by decide +kernel, by decide +kernel⟩
theorem nd_digit : (("digit" : Str) == ("__debug__" : Str)) = false ∧ (("digit" : Str) == ("__classdict__" : Str)) = false := ⟨by decide +kernel, by decide +kernel⟩
theorem nd_shift : (("shift" : Str) == ("__debug__" : Str)) = false ∧ (("shift" : Str) == ("__classdict__" : Str)) = false := ⟨by decide +kernel, by decide +kernel⟩
theorem nd_times : (("times" : Str) == ("__debug__" : Str)) = false ∧ (("times" : Str) == ("__classdict__" : Str)) = false := ⟨by decide +kernel, by decide +kernel⟩
theorem nd_i : (("i" : Str) == ("__debug__" : Str)) = false ∧ (("i" : Str) == ("__classdict__" : Str)) = false := ⟨by decide +kernel, by decide +kernel⟩
theorem nd_height : (("height" : Str) == ("__debug__" : Str)) = false ∧ (("height" : Str) == ("__classdict__" : Str)) = false := ⟨by decide +kernel, by decide +kernel⟩
theorem nd_kind : (("kind" : Str) == ("__debug__" : Str)) = false ∧ (("kind" : Str) == ("__classdict__" : Str)) = false := ⟨by decide +kernel, by decide +kernel⟩
theorem nd_columns : (("columns" : Str) == ("__debug__" : Str)) = false ∧ (("columns" : Str) == ("__classdict__" : Str)) = false := ⟨by decide +kernel, by decide +kernel⟩
theorem nd_j : (("j" : Str) == ("__debug__" : Str)) = false ∧ (("j" : Str) == ("__classdict__" : Str)) = false := ⟨by decide +kernel, by decide +kernel⟩
theorem nd_at : (("at" : Str) == ("__debug__" : Str)) = false ∧ (("at" : Str) == ("__classdict__" : Str)) = false := ⟨by decide +kernel, by decide +kernel⟩
theorem nd_u : (("u" : Str) == ("__debug__" : Str)) = false ∧ (("u" : Str) == ("__classdict__" : Str)) = false := ⟨by decide +kernel, by decide +kernel⟩
theorem nd_v : (("v" : Str) == ("__debug__" : Str)) = false ∧ (("v" : Str) == ("__classdict__" : Str)) = false := ⟨by decide +kernel, by decide +kernel⟩
theorem nd_kept : (("kept" : Str) == ("__debug__" : Str)) = false ∧ (("kept" : Str) == ("__classdict__" : Str)) = false := ⟨by decide +kernel, by decide +kernel⟩
theorem nd_places : (("places" : Str) == ("__debug__" : Str)) = false ∧ (("places" : Str) == ("__classdict__" : Str)) = false := ⟨by decide +kernel, by decide +kernel⟩
theorem nd_pair : (("pair" : Str) == ("__debug__" : Str)) = false ∧ (("pair" : Str) == ("__classdict__" : Str)) = false := ⟨by decide +kernel, by decide +kernel⟩
theorem nd_found : (("found" : Str) == ("__debug__" : Str)) = false ∧ (("found" : Str) == ("__classdict__" : Str)) = false := ⟨by decide +kernel, by decide +kernel⟩
theorem nd_told : (("told" : Str) == ("__debug__" : Str)) = false ∧ (("told" : Str) == ("__classdict__" : Str)) = false := ⟨by decide +kernel, by decide +kernel⟩
theorem nd_k : (("k" : Str) == ("__debug__" : Str)) = false ∧ (("k" : Str) == ("__classdict__" : Str)) = false := ⟨by decide +kernel, by decide +kernel⟩
theorem nd_pairs : (("pairs" : Str) == ("__debug__" : Str)) = false ∧ (("pairs" : Str) == ("__classdict__" : Str)) = false := ⟨by decide +kernel, by decide +kernel⟩
theorem nd_one : (("one" : Str) == ("__debug__" : Str)) = false ∧ (("one" : Str) == ("__classdict__" : Str)) = false := ⟨by decide +kernel, by decide +kernel⟩
theorem nd_a : (("a" : Str) == ("__debug__" : Str)) = false ∧ (("a" : Str) == ("__classdict__" : Str)) = false := ⟨by decide +kernel, by decide +kernel⟩
theorem nd_e : (("e" : Str) == ("__debug__" : Str)) = false ∧ (("e" : Str) == ("__classdict__" : Str)) = false := ⟨by decide +kernel, by decide +kernel⟩
theorem nd_fields : (("fields" : Str) == ("__debug__" : Str)) = false ∧ (("fields" : Str) == ("__classdict__" : Str)) = false := ⟨by decide +kernel, by decide +kernel⟩
theorem nd_beyond : (("beyond" : Str) == ("__debug__" : Str)) = false ∧ (("beyond" : Str) == ("__classdict__" : Str)) = false := ⟨by decide +kernel, by decide +kernel⟩
theorem nd_BadNumber : (("BadNumber" : Str) == ("__debug__" : Str)) = false ∧ (("BadNumber" : Str) == ("__classdict__" : Str)) = false := ⟨by decide +kernel, by decide +kernel⟩
theorem nd_BadPlace : (("BadPlace" : Str) == ("__debug__" : Str)) = false ∧ (("BadPlace" : Str) == ("__classdict__" : Str)) = false := ⟨by decide +kernel, by decide +kernel⟩
theorem nd_BadShape : (("BadShape" : Str) == ("__debug__" : Str)) = false ∧ (("BadShape" : Str) == ("__classdict__" : Str)) = false := ⟨by decide +kernel, by decide +kernel⟩
theorem nd_CarryError : (("CarryError" : Str) == ("__debug__" : Str)) = false ∧ (("CarryError" : Str) == ("__classdict__" : Str)) = false := ⟨by decide +kernel, by decide +kernel⟩
theorem nd_OutOfBounds : (("OutOfBounds" : Str) == ("__debug__" : Str)) = false ∧ (("OutOfBounds" : Str) == ("__classdict__" : Str)) = false := ⟨by decide +kernel, by decide +kernel⟩
theorem nd_ZeroBottom : (("ZeroBottom" : Str) == ("__debug__" : Str)) = false ∧ (("ZeroBottom" : Str) == ("__classdict__" : Str)) = false := ⟨by decide +kernel, by decide +kernel⟩
abbrev N_BadPlace___init__ : List Str := ["self", "place"]
theorem sc_BadPlace___init__ : FnScope N_BadPlace___init__ ["self", "place"] (defScope s_BadPlace___init__) := ⟨rfl, rfl, rfl, by decide +kernel, rfl, by decide +kernel, by decide +kernel⟩
abbrev N_Ratio___init__ : List Str := ["self", "top", "bottom", "shared"]
theorem sc_Ratio___init__ : FnScope N_Ratio___init__ ["self", "top", "bottom"] (defScope s_Ratio___init__) := ⟨rfl, rfl, rfl, by decide +kernel, rfl, by decide +kernel, by decide +kernel⟩
abbrev N__first_filled : List Str := ["table", "start", "column", "place"]
theorem sc__first_filled : FnScope N__first_filled ["table", "start", "column"] (defScope s__first_filled) := ⟨rfl, rfl, rfl, by decide +kernel, rfl, by decide +kernel, by decide +kernel⟩
abbrev N__cleared : List Str := ["row", "head", "column", "divisor", "pivot", "multiple", "x", "y"]
theorem sc__cleared : FnScope N__cleared ["row", "head", "column", "divisor"] (defScope s__cleared) := ⟨rfl, rfl, rfl, by decide +kernel, rfl, by decide +kernel, by decide +kernel⟩
abbrev N_pivot_columns : List Str := ["rows", "width", "left", "row", "pivots", "divisor", "column", "place", "head", "rest"]
theorem sc_pivot_columns : FnScope N_pivot_columns ["rows", "width"] (defScope s_pivot_columns) := ⟨rfl, rfl, rfl, by decide +kernel, rfl, by decide +kernel, by decide +kernel⟩
abbrev N_reduced : List Str := ["rows", "width", "table", "row", "pivots", "scale", "column", "done", "place", "head", "other"]
theorem sc_reduced : FnScope N_reduced ["rows", "width"] (defScope s_reduced) := ⟨rfl, rfl, rfl, by decide +kernel, rfl, by decide +kernel, by decide +kernel⟩
abbrev N__check_shape : List Str := ["rows", "row"]
theorem sc__check_shape : FnScope N__check_shape ["rows"] (defScope s__check_shape) := ⟨rfl, rfl, rfl, by decide +kernel, rfl, by decide +kernel, by decide +kernel⟩
abbrev N__common_divisor : List Str := ["rows", "over", "divisor", "row", "number"]
theorem sc__common_divisor : FnScope N__common_divisor ["rows", "over"] (defScope s__common_divisor) := ⟨rfl, rfl, rfl, by decide +kernel, rfl, by decide +kernel, by decide +kernel⟩
abbrev N_Grid___init__ : List Str := ["self", "rows", "over", "divisor", "row", "number"]
theorem sc_Grid___init__ : FnScope N_Grid___init__ ["self", "rows", "over"] (defScope s_Grid___init__) := ⟨rfl, rfl, rfl, by decide +kernel, rfl, by decide +kernel, by decide +kernel⟩
abbrev N_independent_columns : List Str := ["grid"]
theorem sc_independent_columns : FnScope N_independent_columns ["grid"] (defScope s_independent_columns) := ⟨rfl, rfl, rfl, by decide +kernel, rfl, by decide +kernel, by decide +kernel⟩
abbrev N_rank : List Str := ["grid"]
theorem sc_rank : FnScope N_rank ["grid"] (defScope s_rank) := ⟨rfl, rfl, rfl, by decide +kernel, rfl, by decide +kernel, by decide +kernel⟩
abbrev N_mixture : List Str := ["grid", "column", "_", "table", "scale", "row"]
theorem sc_mixture : FnScope N_mixture ["grid", "column"] (defScope s_mixture) := ⟨rfl, rfl, rfl, by decide +kernel, rfl, by decide +kernel, by decide +kernel⟩
abbrev N__law_start : List Str := ["script", "cell"]
theorem sc__law_start : FnScope N__law_start ["script"] (defScope s__law_start) := ⟨rfl, rfl, rfl, by decide +kernel, rfl, by decide +kernel, by decide +kernel⟩
abbrev N__law_digit : List Str := ["pot", "many", "digit"]
theorem sc__law_digit : FnScope N__law_digit ["pot", "many"] (defScope s__law_digit) := ⟨rfl, rfl, rfl, by decide +kernel, rfl, by decide +kernel, by decide +kernel⟩
abbrev N__law_number : List Str := ["pot", "many", "shift"]
theorem sc__law_number : FnScope N__law_number ["pot", "many", "shift"] (defScope s__law_number) := ⟨rfl, rfl, rfl, by decide +kernel, rfl, by decide +kernel, by decide +kernel⟩
abbrev N__law_more : List Str := ["x", "y", "times", "i"]
theorem sc__law_more : FnScope N__law_more ["x", "y", "times"] (defScope s__law_more) := ⟨rfl, rfl, rfl, by decide +kernel, rfl, by decide +kernel, by decide +kernel⟩
abbrev N__law_table : List Str := ["pot", "height", "width", "kind", "many", "columns", "j", "shift", "column", "i", "other"]
theorem sc__law_table : FnScope N__law_table ["pot", "height", "width"] (defScope s__law_table) := ⟨rfl, rfl, rfl, by decide +kernel, rfl, by decide +kernel, by decide +kernel⟩
abbrev N__law_cleared : List Str := ["x", "y", "at", "u", "v", "i"]
theorem sc__law_cleared : FnScope N__law_cleared ["x", "y", "at"] (defScope s__law_cleared) := ⟨rfl, rfl, rfl, by decide +kernel, rfl, by decide +kernel, by decide +kernel⟩
abbrev N__law_independent : List Str := ["columns", "kept", "places", "j", "column", "pair", "found", "i"]
theorem sc__law_independent : FnScope N__law_independent ["columns"] (defScope s__law_independent) := ⟨rfl, rfl, rfl, by decide +kernel, rfl, by decide +kernel, by decide +kernel⟩
abbrev N__law_whole : List Str := ["told"]
theorem sc__law_whole : FnScope N__law_whole ["told"] (defScope s__law_whole) := ⟨rfl, rfl, rfl, by decide +kernel, rfl, by decide +kernel, by decide +kernel⟩
abbrev N__law_pair : List Str := ["told", "u", "v", "k", "rest"]
theorem sc__law_pair : FnScope N__law_pair ["told"] (defScope s__law_pair) := ⟨rfl, rfl, rfl, by decide +kernel, rfl, by decide +kernel, by decide +kernel⟩
abbrev N__law_is_mixture : List Str := ["told", "columns", "places", "at", "pairs", "one", "k", "i", "top", "bottom", "cell"]
theorem sc__law_is_mixture : FnScope N__law_is_mixture ["told", "columns", "places", "at"] (defScope s__law_is_mixture) := ⟨rfl, rfl, rfl, by decide +kernel, rfl, by decide +kernel, by decide +kernel⟩
abbrev N__law_bad_place : List Str := ["a", "place", "e"]
theorem sc__law_bad_place : FnScope N__law_bad_place ["a", "place"] (defScope s__law_bad_place) := ⟨rfl, rfl, rfl, by decide +kernel, rfl, by decide +kernel, by decide +kernel⟩
abbrev N__law_is_list : List Str := ["told", "places", "one"]
theorem sc__law_is_list : FnScope N__law_is_list ["told", "places"] (defScope s__law_is_list) := ⟨rfl, rfl, rfl, by decide +kernel, rfl, by decide +kernel, by decide +kernel⟩
abbrev N_law : List Str := ["script", "pot", "height", "width", "columns", "over", "rows", "column", "i", "places", "a", "fields", "told", "many", "at", "beyond", "place"]
theorem sc_law : FnScope N_law ["script"] (defScope s_law) := ⟨rfl, rfl, rfl, by decide +kernel, rfl, by decide +kernel, by decide +kernel⟩

theorem bt_abs : bootBuiltins "abs" = some (.builtin "abs") := by decide +kernel
theorem bt_len : bootBuiltins "len" = some (.builtin "len") := by decide +kernel
theorem bt_min : bootBuiltins "min" = some (.builtin "min") := by decide +kernel
theorem bt_max : bootBuiltins "max" = some (.builtin "max") := by decide +kernel
theorem bt_int : bootBuiltins "int" = some (.type "int") := by decide +kernel
theorem bt_bool : bootBuiltins "bool" = some (.type "bool") := by decide +kernel
theorem bt_str : bootBuiltins "str" = some (.type "str") := by decide +kernel
theorem bt_ValueError : bootBuiltins "ValueError" = some (.type "ValueError") := by decide +kernel
theorem bt_isinstance : bootBuiltins "isinstance" = some (.builtin "isinstance") := by decide +kernel
theorem bt_all : bootBuiltins "all" = some (.builtin "all") := by decide +kernel
theorem bt_any : bootBuiltins "any" = some (.builtin "any") := by decide +kernel
theorem bt_list : bootBuiltins "list" = some (.type "list") := by decide +kernel
theorem bt_tuple : bootBuiltins "tuple" = some (.type "tuple") := by decide +kernel
theorem bt_sum : bootBuiltins "sum" = some (.builtin "sum") := by decide +kernel

structure Txt (G : Gx) (C_Ratio C_Grid C_BadShape C_BadPlace C_CarryError : Addr) : Prop where
  n_abs : G.mg "abs" = none
  n_len : G.mg "len" = none
  n_int : G.mg "int" = none
  n_bool : G.mg "bool" = none
  n_range : G.mg "range" = none
  n_isinstance : G.mg "isinstance" = none
  n_zip : G.mg "zip" = none
  n_tuple : G.mg "tuple" = none
  n_list : G.mg "list" = none
  n_sum : G.mg "sum" = none
  n_all : G.mg "all" = none
  n_ValueError : G.mg "ValueError" = none
  mg_gcd : G.mg "gcd" = some (.builtin "math.gcd")
  gc_MOST_PLACES : ∃ u, G.mg "MOST_PLACES" = some u ∧ RelV (.int 64) u
  mg_Ratio : G.mg "Ratio" = some (.ref C_Ratio)
  mg_Grid : G.mg "Grid" = some (.ref C_Grid)
  mg_BadShape : G.mg "BadShape" = some (.ref C_BadShape)
  mg_BadPlace : G.mg "BadPlace" = some (.ref C_BadPlace)
  mg_CarryError : G.mg "CarryError" = some (.ref C_CarryError)
  R_Ratio : RatC G.K C_Ratio
  D_Grid : GridC G.K C_Grid
  x0_BadShape : Exc0 G "BadShape" C_BadShape
  XC_BadShape : ExK G.K C_BadShape
  x_BadPlace : ExcS G "BadPlace" C_BadPlace (spXP C_BadPlace "place")
  XC_BadPlace : ExK G.K C_BadPlace
  no_BadPlace_place : PySem.W.findIn G.K (.ref C_BadPlace) "place" = some none
  is_Ratio_Ratio : PySem.W.kitOne G.K (.ref C_Ratio) (.ref C_Ratio) = some true
  is_BadPlace_BadPlace : PySem.W.kitOne G.K (.ref C_BadPlace) (.ref C_BadPlace) = some true
  is_BadPlace_BadShape : PySem.W.kitOne G.K (.ref C_BadPlace) (.ref C_BadShape) = some false
  isT_BadPlace_ValueError : PySem.W.kitOne G.K (.ref C_BadPlace) (.type "ValueError") = some true
  ex_BadPlace_CarryError : PySem.W.exmOne G.K (.ref C_BadPlace) (.ref C_CarryError) = some true

/-! one step, by the goal's head -/

/-! Ratio and Span by numbers: their promises used -/
local macro_rules | `(tactic| walk_at "fld_1") => `(tactic| (with_reducible refine we_fldF ?_))
local macro_rules | `(tactic| walk_at "useWe_1") => `(tactic| first | (with_reducible refine we_mt ?_) | (with_reducible refine we_ratQ ?_) | (with_reducible refine we_ratQ1 ?_) | (with_reducible refine we_spn ?_) | fail)
local macro_rules | `(tactic| walk_at "sWe_1") => `(tactic| first
  | ((with_reducible refine we_var (d := ?d) ?hv ?hk); case hv => rfl)
  | (with_reducible first
    | refine we_cint ?_ | refine we_2 ?_ | refine we_cl0 ?_ | refine we_tup ?_ | refine we_1 ?_ | refine we_c2 ?_ | refine we_cbl ?_ | refine we_cnon ?_ | refine we_cty ?_ | refine we_cref ?_
    | refine we_op ?_ | refine we_andV ?_ | refine we_orV ?_ | refine we_notV ?_ | refine we_3 ?_ | refine we_ifx ?_ | refine we_cstr ?_ | refine we_clH ?_)
  | walk_at "fld_1"
  | walk_at "useWe_1")
local macro_rules | `(tactic| walk_at "useW2_1") => `(tactic| first
  | (with_reducible refine w2_addO (by assumption) (by decide) .fixed .fixed ?_) | (with_reducible refine w2_subO (by assumption) (by decide) .fixed .fixed ?_) | (with_reducible refine w2_mulO (by assumption) (by decide) .fixed .fixed ?_) | (with_reducible refine w1_negO (by assumption) (by decide) .fixed ?_) | (with_reducible refine w2_inO (by assumption) (by decide) .fixed ?_) | fail)
local macro_rules | `(tactic| walk_at "sW2_1") => `(tactic| first
  | (with_reducible first
    | refine w2_add ?_ | refine w2_sub ?_ | refine w2_mul ⟨?_, ?_⟩ | refine w2_fdiv ⟨?_, ?_⟩ | refine w2_mod ⟨?_, ?_⟩ | refine w2_pow ⟨?_, ?_⟩ | refine w2_eqI ?_ | refine w2_neI ?_ | refine w2_lt ?_ | refine w2_le ?_ | refine w2_gt ?_ | refine w2_ge ?_ | refine w2_eqFI ?_ | refine w2_neFI ?_)
  | ((with_reducible refine w2_ixT (d := ?d) ⟨?hv, ?hk⟩); case hv => rfl)
  | ((with_reducible refine w2_ixL (d := ?d) ⟨?hv, ?hk⟩); case hv => rfl)
  | ((with_reducible refine w2_ixM (d := ?d) .head ⟨?hv, ?hk⟩); case hv => rfl)
  | (with_reducible first
    | refine w2_eqIH ?_ | refine w2_neIH ?_ | refine w2_mulH ⟨?_, ?_⟩ | refine w2_addH ?_ | refine w2_subH ?_ | refine w2_isN ?_ | refine w2_notN ?_ | refine w2_isB ?_ | refine w2_notB ?_)
  | walk_at "useW2_1")
local macro_rules | `(tactic| walk_at "sWa_1") => `(tactic| with_reducible first | refine wa_nil ?_ | refine wa_cons ?_)
local macro_rules | `(tactic| walk_at "useWs_1") => `(tactic| first | (with_reducible refine ws_rs0 ?_) | (with_reducible refine ws_rs ?_) | fail)
local macro_rules | `(tactic| walk_at "sWs_1") => `(tactic| first
  | (with_reducible first | refine ws_seq ?_ | refine ws_ret ?_ | refine ws_asg ?_ | refine ws_next ?_ | refine ws_drop ?_ | refine ws_par ?_ | refine ws_par3 ?_ | refine ws_fldN ?_ | refine ws_brk ?_ | refine ws_cont ?_)
  | walk_at "useWs_1")
local macro_rules | `(tactic| walk_at "sWt_1") => `(tactic| with_reducible first | refine wt_test ?_ | refine wt_tr ?_ | refine wt_and ?_ | refine wt_or ?_ | refine wt_not ?_)
local macro_rules | `(tactic| walk_at "useWc_1") => `(tactic| fail)
local macro_rules | `(tactic| walk_at "sWc_1") => `(tactic| first
  | (with_reducible first | refine wc_int ?_ | refine wc_abs ?_ | refine wc_min ?_ | refine wc_gcd ?_ | refine wc_isiT .int kit_ii ?_ | refine wc_isiT .int kit_ib ?_ | refine wc_len .lst ?_ | refine wc_len .tup ?_ | refine wc_strI ?_ ?_)
  | walk_at "useWc_1")
local macro_rules | `(tactic| walk_at "sWi_1") => `(tactic| fail)
local macro_rules | `(tactic| walk_at "sWg_1") => `(tactic| with_reducible first | refine wg_name ?_ | refine wg_subM ?_ | refine wg_tup rfl ?_)
local macro_rules | `(tactic| walk_at "sW1_1") => `(tactic| first | (with_reducible refine w1_neg ?_) | walk_at "useW2_1")
local macro_rules | `(tactic| walk_at "sWgs_1") => `(tactic| with_reducible first | refine wgs_cons ?_ | refine wgs_nil ?_)
local macro_rules | `(tactic| walk_at "sS_1") => `(tactic| fail)
local macro_rules | `(tactic| walk_at "use_1") => `(tactic| fail)
local macro_rules | `(tactic| walk_at "sX_1") => `(tactic| first
  | (with_reducible refine ⟨_, rfl, ?_⟩)
  | (with_reducible refine fld_top (by assumption) ?_) | (with_reducible refine fld_bottom (by assumption) ?_)
  | (with_reducible refine ⟨_, .bl, ?_⟩)
  | ((with_reducible refine ⟨?h, ?_⟩); case h => rfl)
  | (with_reducible refine ⟨_, _, rfl, ?_⟩)
  | (with_reducible refine ⟨_, _, _, rfl, ?_⟩)
  | walk_at "use_1"
  | (with_reducible refine setN_top (by assumption) ?_) | (with_reducible refine setN_bottom (by assumption) ?_)
  | ((with_reducible refine ⟨_, _, _, ?j, _, rfl, rfl, .head, ?h, .head, ?_⟩); case h => rfl)
  | fail)
local macro_rules | `(tactic| walk_at "st_1") => `(tactic| first
  | ((with_reducible show We _ _ _ _ _ _); walk_at "sWe_1")
  | ((with_reducible show W2 _ _ _ _ _ _ _ _); walk_at "sW2_1")
  | ((with_reducible show Wa _ _ _ _ _ _); walk_at "sWa_1")
  | ((with_reducible show Ws _ _ _ _ _ _); walk_at "sWs_1")
  | ((with_reducible show Wt _ _ _ _ _ _); walk_at "sWt_1")
  | ((with_reducible show Wc _ _ _ _ _ _ _); walk_at "sWc_1")
  | ((with_reducible show Wi _ _ _ _ _ _); walk_at "sWi_1")
  | ((with_reducible show Wg _ _ _ _ _ _ _); walk_at "sWg_1")
  | ((with_reducible show W1 _ _ _ _ _ _ _); walk_at "sW1_1")
  | ((with_reducible show Wgs _ _ _ _ _ _ _); walk_at "sWgs_1")
  | walk_at "sS_1" | walk_at "sX_1" | fail)
local macro_rules | `(tactic| walk_at "wif_1") => `(tactic| (with_reducible refine ws_if ?_))
local macro_rules | `(tactic| walk_at "br_1") => `(tactic| ((with_reducible refine ⟨fun hb => ?_, fun hb => ?_⟩) <;> (try simp only [decide_eq_true_eq, decide_eq_false_iff_not, Bool.not_eq_true', Bool.not_eq_false', Bool.and_eq_true, Bool.or_eq_true, reduceCtorEq, List.length_map, Bool.not_true, Bool.not_false, DL.isNon, not_true_eq_false, not_false_eq_true, Classical.not_not, List.all_cons, List.all_nil, id_eq, Bool.and_self, Bool.true_and, decide_true, decide_false] at hb)))
local macro_rules | `(tactic| walk_at "go_1") => `(tactic| repeat' (first | walk_at "st_1" | walk_at "wif_1" | walk_at "br_1" | fail))

section
variable {G : Gx} {C_Ratio C_Grid C_BadShape C_BadPlace C_CarryError : Addr}
theorem ok_init (T : Txt G C_Ratio C_Grid C_BadShape C_BadPlace C_CarryError) {f : Addr} {fd : FuncData} {dvs : List V} (F : FunW G.K "__init__" "Ratio.__init__" s_Ratio___init__ dvs f fd) {ds : List Value} {dd : List D} (b : L2.Binds G.K fd ["self", "top", "bottom"] ds) (d : L2.Vals (dd.map ofD) ds) (cs : dd.all isC = true) : Fnx G 1 f 3 (S_init C_Ratio) dd := by
  refine fnx_ofD F sc_Ratio___init__ rfl b d cs (fun cdv A outer s H FF hr tk => ⟨_, (pss_cons (ps_if (pt_cm (os_eqF hr tk) (pe_var (i := 2) rfl (Or.inl rfl) nd_bottom.1 nd_bottom.2) pe_int (nomark _)) (pss_one ps_never) pss_nil) (pss_cons (ps_set (i := 3) sc_Ratio___init__.nd rfl (Or.inl rfl) (pe_cf cs_gcd rfl T.mg_gcd (pa_cons (pe_var (i := 1) rfl (Or.inl rfl) nd_top.1 nd_top.2) (pa_cons (pe_var (i := 2) rfl (Or.inl rfl) nd_bottom.1 nd_bottom.2) pa_nil)))) (pss_cons (ps_if (pt_cm os_lt (pe_var (i := 2) rfl (Or.inl rfl) nd_bottom.1 nd_bottom.2) pe_int (nomark _)) (pss_one (ps_set (i := 3) sc_Ratio___init__.nd rfl (Or.inl rfl) (pe_una (us_neg hr tk) (pe_var (i := 3) rfl (Or.inl rfl) nd_shared.1 nd_shared.2)))) pss_nil) (pss_cons (ps_fld (pe_var (i := 0) rfl (Or.inl rfl) nd_self.1 nd_self.2) (pe_bin os_fdiv (pe_var (i := 1) rfl (Or.inl rfl) nd_top.1 nd_top.2) (pe_var (i := 3) rfl (Or.inl rfl) nd_shared.1 nd_shared.2)) rfl) (pss_one (ps_fld (pe_var (i := 0) rfl (Or.inl rfl) nd_self.1 nd_self.2) (pe_bin os_fdiv (pe_var (i := 2) rfl (Or.inl rfl) nd_bottom.1 nd_bottom.2) (pe_var (i := 3) rfl (Or.inl rfl) nd_shared.1 nd_shared.2)) rfl)))))), ?_⟩)
  rintro ds m K E - ⟨x, m0, t, b, rfl, rfl, hb0, hbb, k⟩
  show Ws _ _ _ [some (.ref x), some (.int t), some (.int b), none] _ _
  try dsimp only [cx_G, cx_K]
  have gp := gc_pos (t := t) hb0
  have gb := gc_bd (t := t) hb0 hbb
  have R := T.R_Ratio
  have gn : gc t b ≠ 0 := by omega
  have fin1 : ¬ b < 0 → t.fdiv (gc t b) = rT t b ∧ b.fdiv (gc t b) = rB t b := fun h => by
    unfold rT rB
    rw [if_neg h, if_neg h, fdiv_pos gp, fdiv_pos gp]
    exact ⟨rfl, rfl⟩
  have fin2 : b < 0 → t.fdiv (-gc t b) = rT t b ∧ b.fdiv (-gc t b) = rB t b := fun h => by
    unfold rT rB
    rw [if_pos h, if_pos h, fdiv_neg' gp (gc_dvd1 t b), fdiv_neg' gp (gc_dvd2 t b)]
    exact ⟨rfl, rfl⟩
  have c1 : ∀ z : Int, CDivX z (-((t.natAbs.gcd b.natAbs : Nat) : Int)) := fun z => gb.neg.divX (by omega) (by decide)
  have c2 : ∀ z : Int, CDivX z ((t.natAbs.gcd b.natAbs : Nat) : Int) := fun z => gb.divX gn (by decide)
  have k1 : b < 0 → K .non ((x, .ins C_Ratio ["top", "bottom"] [.int (t.fdiv (-((t.natAbs.gcd b.natAbs : Nat) : Int))), .int (b.fdiv (-((t.natAbs.gcd b.natAbs : Nat) : Int)))]) :: m0) := fun h => by
    have q := k
    rw [← (fin2 h).1, ← (fin2 h).2] at q
    exact q
  have k2 : ¬ b < 0 → K .non ((x, .ins C_Ratio ["top", "bottom"] [.int (t.fdiv ((t.natAbs.gcd b.natAbs : Nat) : Int)), .int (b.fdiv ((t.natAbs.gcd b.natAbs : Nat) : Int))]) :: m0) := fun h => by
    have q := k
    rw [← (fin1 h).1, ← (fin1 h).2] at q
    exact q
  walk_at "go_1"
  all_goals first | exact absurd ‹b = 0› hb0 | exact c1 _ | exact c2 _ | exact k1 ‹_› | exact k2 ‹_›
local macro_rules | `(tactic| walk_at "fld_2") => `(tactic| (with_reducible refine we_fldF ?_))
local macro_rules | `(tactic| walk_at "useWe_2") => `(tactic| first | (with_reducible refine we_mt ?_) | (with_reducible refine we_ratQ ?_) | (with_reducible refine we_ratQ1 ?_) | (with_reducible refine we_spn ?_) | fail)
local macro_rules | `(tactic| walk_at "sWe_2") => `(tactic| first
  | ((with_reducible refine we_var (d := ?d) ?hv ?hk); case hv => rfl)
  | (with_reducible first
    | refine we_cint ?_ | refine we_2 ?_ | refine we_cl0 ?_ | refine we_tup ?_ | refine we_1 ?_ | refine we_c2 ?_ | refine we_cbl ?_ | refine we_cnon ?_ | refine we_cty ?_ | refine we_cref ?_
    | refine we_op ?_ | refine we_andV ?_ | refine we_orV ?_ | refine we_notV ?_ | refine we_3 ?_ | refine we_ifx ?_ | refine we_cstr ?_ | refine we_clH ?_)
  | walk_at "fld_2"
  | walk_at "useWe_2")
local macro_rules | `(tactic| walk_at "useW2_2") => `(tactic| first
  | (with_reducible refine w2_addO (by assumption) (by decide) .fixed .fixed ?_) | (with_reducible refine w2_subO (by assumption) (by decide) .fixed .fixed ?_) | (with_reducible refine w2_mulO (by assumption) (by decide) .fixed .fixed ?_) | (with_reducible refine w1_negO (by assumption) (by decide) .fixed ?_) | (with_reducible refine w2_inO (by assumption) (by decide) .fixed ?_) | fail)
local macro_rules | `(tactic| walk_at "sW2_2") => `(tactic| first
  | (with_reducible first
    | refine w2_add ?_ | refine w2_sub ?_ | refine w2_mul ⟨?_, ?_⟩ | refine w2_fdiv ⟨?_, ?_⟩ | refine w2_mod ⟨?_, ?_⟩ | refine w2_pow ⟨?_, ?_⟩ | refine w2_eqI ?_ | refine w2_neI ?_ | refine w2_lt ?_ | refine w2_le ?_ | refine w2_gt ?_ | refine w2_ge ?_ | refine w2_eqFI ?_ | refine w2_neFI ?_)
  | ((with_reducible refine w2_ixT (d := ?d) ⟨?hv, ?hk⟩); case hv => rfl)
  | ((with_reducible refine w2_ixL (d := ?d) ⟨?hv, ?hk⟩); case hv => rfl)
  | ((with_reducible refine w2_ixM (d := ?d) .head ⟨?hv, ?hk⟩); case hv => rfl)
  | (with_reducible first
    | refine w2_eqIH ?_ | refine w2_neIH ?_ | refine w2_mulH ⟨?_, ?_⟩ | refine w2_addH ?_ | refine w2_subH ?_ | refine w2_isN ?_ | refine w2_notN ?_ | refine w2_isB ?_ | refine w2_notB ?_)
  | walk_at "useW2_2")
local macro_rules | `(tactic| walk_at "sWa_2") => `(tactic| with_reducible first | refine wa_nil ?_ | refine wa_cons ?_)
local macro_rules | `(tactic| walk_at "useWs_2") => `(tactic| first | (with_reducible refine ws_rs0 ?_) | (with_reducible refine ws_rs ?_) | fail)
local macro_rules | `(tactic| walk_at "sWs_2") => `(tactic| first
  | (with_reducible first | refine ws_seq ?_ | refine ws_ret ?_ | refine ws_asg ?_ | refine ws_next ?_ | refine ws_drop ?_ | refine ws_par ?_ | refine ws_par3 ?_ | refine ws_fldN ?_ | refine ws_brk ?_ | refine ws_cont ?_)
  | walk_at "useWs_2")
local macro_rules | `(tactic| walk_at "sWt_2") => `(tactic| with_reducible first | refine wt_test ?_ | refine wt_tr ?_ | refine wt_and ?_ | refine wt_or ?_ | refine wt_not ?_)
local macro_rules | `(tactic| walk_at "useWc_2") => `(tactic| fail)
local macro_rules | `(tactic| walk_at "sWc_2") => `(tactic| first
  | (with_reducible first | refine wc_int ?_ | refine wc_abs ?_ | refine wc_min ?_ | refine wc_gcd ?_ | refine wc_isiT .int kit_ii ?_ | refine wc_isiT .int kit_ib ?_ | refine wc_len .lst ?_ | refine wc_len .tup ?_ | refine wc_strI ?_ ?_)
  | walk_at "useWc_2")
local macro_rules | `(tactic| walk_at "sWi_2") => `(tactic| fail)
local macro_rules | `(tactic| walk_at "sWg_2") => `(tactic| with_reducible first | refine wg_name ?_ | refine wg_subM ?_ | refine wg_tup rfl ?_)
local macro_rules | `(tactic| walk_at "sW1_2") => `(tactic| first | (with_reducible refine w1_neg ?_) | walk_at "useW2_2")
local macro_rules | `(tactic| walk_at "sWgs_2") => `(tactic| with_reducible first | refine wgs_cons ?_ | refine wgs_nil ?_)
local macro_rules | `(tactic| walk_at "sS_2") => `(tactic| fail)
local macro_rules | `(tactic| walk_at "useq_2") => `(tactic| first
  | (with_reducible refine fld_low (by assumption) ?_) | (with_reducible refine fld_high (by assumption) ?_)
  | (with_reducible refine mt_of0 (by assumption) (by decide) ?_) | (with_reducible refine RatQ.mk ?_ ?_ ?_)
  | (with_reducible refine use_qcmp ?_ ?_ ?_) | (with_reducible refine use_qsign ?_) | (with_reducible refine use_qdown ?_ ?_) | (with_reducible refine use_qup ?_ ?_)
  | (with_reducible refine use_qleast ?_ ?_ ?_) | (with_reducible refine use_qgreat ?_ ?_ ?_)
  | (with_reducible refine use_qadd ?_ ?_ ?_) | (with_reducible refine use_qsub ?_ ?_ ?_) | (with_reducible refine use_qmul ?_ ?_ ?_) | (with_reducible refine use_qdiv ?_ ?_ ?_ ?_) | (with_reducible refine use_qneg ?_ ?_)
  | (with_reducible refine SpnA.mk ?_ ?_ ?_ ?_)
  | (with_reducible refine use_s2 ?_ ?_) | (with_reducible refine use_sneg ?_ ?_ ?_ ?_) | (with_reducible refine use_scont ?_ ?_ ?_ ?_) | (with_reducible refine use_sdiv ?_ ?_ ?_)
  | (with_reducible refine setN_low (by assumption) ?_) | (with_reducible refine setN_high (by assumption) ?_)
  | fail)
local macro_rules | `(tactic| walk_at "use_2") => `(tactic| first | walk_at "useq_2" | fail)
local macro_rules | `(tactic| walk_at "sX_2") => `(tactic| first
  | (with_reducible refine ⟨_, rfl, ?_⟩)
  | (with_reducible refine fld_top (by assumption) ?_) | (with_reducible refine fld_bottom (by assumption) ?_)
  | (with_reducible refine ⟨_, .bl, ?_⟩)
  | ((with_reducible refine ⟨?h, ?_⟩); case h => rfl)
  | (with_reducible refine ⟨_, _, rfl, ?_⟩)
  | (with_reducible refine ⟨_, _, _, rfl, ?_⟩)
  | walk_at "use_2"
  | (with_reducible refine setN_top (by assumption) ?_) | (with_reducible refine setN_bottom (by assumption) ?_)
  | ((with_reducible refine ⟨_, _, _, ?j, _, rfl, rfl, .head, ?h, .head, ?_⟩); case h => rfl)
  | fail)
local macro_rules | `(tactic| walk_at "st_2") => `(tactic| first
  | ((with_reducible show We _ _ _ _ _ _); walk_at "sWe_2")
  | ((with_reducible show W2 _ _ _ _ _ _ _ _); walk_at "sW2_2")
  | ((with_reducible show Wa _ _ _ _ _ _); walk_at "sWa_2")
  | ((with_reducible show Ws _ _ _ _ _ _); walk_at "sWs_2")
  | ((with_reducible show Wt _ _ _ _ _ _); walk_at "sWt_2")
  | ((with_reducible show Wc _ _ _ _ _ _ _); walk_at "sWc_2")
  | ((with_reducible show Wi _ _ _ _ _ _); walk_at "sWi_2")
  | ((with_reducible show Wg _ _ _ _ _ _ _); walk_at "sWg_2")
  | ((with_reducible show W1 _ _ _ _ _ _ _); walk_at "sW1_2")
  | ((with_reducible show Wgs _ _ _ _ _ _ _); walk_at "sWgs_2")
  | walk_at "sS_2" | walk_at "sX_2" | fail)
local macro_rules | `(tactic| walk_at "wif_2") => `(tactic| (with_reducible refine ws_if ?_))
local macro_rules | `(tactic| walk_at "br_2") => `(tactic| ((with_reducible refine ⟨fun hb => ?_, fun hb => ?_⟩) <;> (try simp only [decide_eq_true_eq, decide_eq_false_iff_not, Bool.not_eq_true', Bool.not_eq_false', Bool.and_eq_true, Bool.or_eq_true, reduceCtorEq, List.length_map, Bool.not_true, Bool.not_false, DL.isNon, not_true_eq_false, not_false_eq_true, Classical.not_not, List.all_cons, List.all_nil, id_eq, Bool.and_self, Bool.true_and, decide_true, decide_false] at hb)))
local macro_rules | `(tactic| walk_at "go_2") => `(tactic| repeat' (first | walk_at "st_2" | walk_at "wif_2" | walk_at "br_2" | fail))
local macro_rules | `(tactic| walk_at "dl_2") => `(tactic| repeat (first | walk_at "st_2" | walk_at "wif_2" | fail))

theorem ok_digit (T : Txt G C_Ratio C_Grid C_BadShape C_BadPlace C_CarryError) {f : Addr} {fd : FuncData} (F : L2.Fun G.K "_law_digit" "_law_digit" s__law_digit f fd) (b : Binds G.K fd ["pot", "many"] []) : Fnx G 1 f 2 S_digit [] := by
  refine fnx_of F sc__law_digit rfl b .nil rfl (fun cdv A outer s H FF hr tk => ⟨_, (pss_cons (ps_if (PW.pt (pw_and (pt_cm (os_eqF hr tk) (pe_ix ix_seq (pe_var (i := 0) rfl (Or.inl rfl) nd_pot.1 nd_pot.2) pe_int (fun _ _ => rfl)) pe_int (nomark _)) (pw_and1 (pt_cm os_lt (pe_ix ix_seq (pe_var (i := 0) rfl (Or.inl rfl) nd_pot.1 nd_pot.2) pe_int (fun _ _ => rfl)) (pe_cb cs_len rfl T.n_len bt_len (pa_cons (pe_ix ix_seq (pe_var (i := 0) rfl (Or.inl rfl) nd_pot.1 nd_pot.2) pe_int (fun _ _ => rfl)) pa_nil)) (nomark _))))) (pss_cons (ps_asg (pe_ix ix_seq (pe_ix ix_seq (pe_var (i := 0) rfl (Or.inl rfl) nd_pot.1 nd_pot.2) pe_int (fun _ _ => rfl)) (pe_ix ix_seq (pe_var (i := 0) rfl (Or.inl rfl) nd_pot.1 nd_pot.2) pe_int (fun _ _ => rfl)) (fun _ _ => rfl)) (pg_sub (pe_var (i := 0) rfl (Or.inl rfl) nd_pot.1 nd_pot.2) pe_int set_list)) (pss_one (ps_asg (pe_bin (os_add hr tk) (pe_ix ix_seq (pe_var (i := 0) rfl (Or.inl rfl) nd_pot.1 nd_pot.2) pe_int (fun _ _ => rfl)) pe_int) (pg_sub (pe_var (i := 0) rfl (Or.inl rfl) nd_pot.1 nd_pot.2) pe_int set_list)))) pss_nil) (pss_cons (ps_set (i := 2) sc__law_digit.nd rfl (Or.inl rfl) (pe_bin os_mod (pe_ct cs_int rfl T.n_int bt_int (pa_cons (pe_ix ix_seq (pe_var (i := 0) rfl (Or.inl rfl) nd_pot.1 nd_pot.2) pe_int (fun _ _ => rfl)) pa_nil)) (pe_var (i := 1) rfl (Or.inl rfl) nd_many.1 nd_many.2))) (pss_cons (ps_asg (pe_bin os_fdiv (pe_ix ix_seq (pe_var (i := 0) rfl (Or.inl rfl) nd_pot.1 nd_pot.2) pe_int (fun _ _ => rfl)) (pe_var (i := 1) rfl (Or.inl rfl) nd_many.1 nd_many.2)) (pg_sub (pe_var (i := 0) rfl (Or.inl rfl) nd_pot.1 nd_pot.2) pe_int set_list)) (pss_one (ps_ret (pe_var (i := 2) rfl (Or.inl rfl) nd_digit.1 nd_digit.2)))))), ?_⟩)
  rintro ds m K E - ⟨p, many, m0, rfl, h0, hb, ⟨cs, i, r, rfl, hi, hrr, hcs⟩, k⟩
  show Ws _ _ _ [some (.ref p), some (.int many), none] _ _
  dsimp only [cx_G, cx_K]
  have fin : ∀ (cs : List Int) (i r : Int), 0 ≤ i → 0 ≤ r → (∀ c ∈ cs, 0 ≤ c) → K (.int (r.fmod many)) ((p, .lst [.lst (cs.map D.int), .int i, .int (r.fdiv many)]) :: m0) := fun cs i r hi hr hc => by
    rw [Int.fmod_eq_emod_of_nonneg _ (by omega), Int.fdiv_eq_ediv_of_nonneg _ (by omega)]
    exact k _ _ (Int.emod_nonneg _ (by omega)) (Int.emod_lt_of_pos _ h0) ⟨cs, i, _, rfl, hi, Int.ediv_nonneg hr (by omega), hc⟩
  have hne : many ≠ 0 := by omega
  have hdv : CDivX r many := hb.divX hne (by decide)
  walk_at "go_2"
  · obtain ⟨c, hc, hat⟩ := atI_ints hi ‹i < _›
    refine w2_ixL ⟨hat, ?_⟩
    walk_at "go_2"
    · exact hne
    · exact hb.divX hne (by decide)
    · exact fin _ _ _ (by omega) (hcs _ hc) hcs
  all_goals first | exact hne | exact hdv | exact fin _ _ _ hi hrr hcs
theorem cut_pot {ns : List Int} (h : ns.length ≤ 63) : cutD (ns.map D.int) none (some 63) = ns.map D.int := cut63 (by rw [List.length_map]; exact h)
def dabs : D → D
  | .int i => .int (i.natAbs : Int)
  | d => d
theorem ok_pot (T : Txt G C_Ratio C_Grid C_BadShape C_BadPlace C_CarryError) {f : Addr} {fd : FuncData} (F : L2.Fun G.K "_law_start" "_law_start" s__law_start f fd) (b : L2.Binds G.K fd ["script"] []) : Fnx G 1 f 1 (S_pot G.K) [] := by
  refine fnx_of F sc__law_start rfl b .nil rfl (fun cdv A outer s H FF hr tk => ⟨_, (pss_one (ps_ret (pe_lst (pa_cons (pe_lc (own := [("cell", 1)]) (g := (gName 1)) (tt := tYes) rfl sc__law_start.nd (pi_seqK (KK := G.K) (by rfl) (pe_slice sl_list (pe_var (i := 0) rfl (Or.inl rfl) nd_script.1 nd_script.2) po_none (po_some pe_int))) (blkOk_by (N := N__law_start) (sc := (defScope s__law_start)) (by decide +kernel)) (fun _ _ _ _ _ => (pg_name (i := 1) sc__law_start.nd rfl (Or.inl rfl))) (fun _ _ _ _ _ => pts_nil) (fun _ _ _ _ _ => (pe_cb cs_abs rfl T.n_abs bt_abs (pa_cons (pe_var (i := 1) rfl (Or.inl rfl) nd_cell.1 nd_cell.2) pa_nil)))) (pa_cons pe_int (pa_cons pe_int pa_nil)))))), ?_⟩)
  rintro ds m K E - ⟨d, ns, rfl, sd, hl, k⟩
  show Ws _ _ _ [some d, none] _ _
  dsimp only [cx_G, cx_K]
  refine ws_ret (we_lstM (wa_cons (we_lcm (f := dabs) (we_slS ?_))))
  walk_at "dl_2"
  refine ⟨ns, sd, wo_none (wo_some ?_)⟩
  walk_at "dl_2"
  rw [cut_pot hl]
  refine ⟨_, .lst, by rw [List.length_map]; exact Nat.ble_eq_true_of_le (by omega), ?_, ?_⟩
  · intro x hx q K2 hk
    obtain ⟨i, hi, rfl⟩ := List.mem_map.mp hx
    walk_at "dl_2"
    exact hk
  · walk_at "dl_2"
    intro p hp
    have e : (ns.map D.int).map dabs = (ns.map fun i => (i.natAbs : Int)).map D.int := by
      rw [List.map_map, List.map_map]; rfl
    refine k p _ hp ⟨_, 0, 0, by rw [e], by omega, by omega, fun c hc => ?_⟩
    obtain ⟨i, _, rfl⟩ := List.mem_map.mp hc
    omega

end
end K10
set_option Elab.async false
set_option linter.all false
set_option maxRecDepth 100000
set_option maxHeartbeats 4000000
namespace K10
open PySem PySem.Spec L2 DL
open PyProof.Rows hiding St
/-! one step, by the goal's head -/

/-! comprehensions, sums, lists of others -/
local macro_rules | `(tactic| walk_at "fld_1") => `(tactic| (with_reducible refine we_fldF ?_))
local macro_rules | `(tactic| walk_at "useWe_1") => `(tactic| first
  | ((with_reducible apply we_lcs); case gk => first | exact gk_name rfl | exact gk_tup (gks_cons (gk_name rfl) (gks_cons (gk_name rfl) gks_nil)))
  | (with_reducible refine we_slPre ?_) | (with_reducible refine we_slSuf ?_) | (with_reducible refine we_app ?_) | (with_reducible refine we_mt ?_) | (with_reducible refine we_grd ?_) | (with_reducible refine we_ratQ ?_) | (with_reducible refine we_ratQ1 ?_) | fail)
local macro_rules | `(tactic| walk_at "sWe_1") => `(tactic| first
  | ((with_reducible refine we_var (d := ?d) ?hv ?hk); case hv => rfl)
  | (with_reducible first
    | refine we_cint ?_ | refine we_2 ?_ | refine we_cl0 ?_ | refine we_tup ?_ | refine we_1 ?_ | refine we_c2 ?_ | refine we_cbl ?_ | refine we_cnon ?_ | refine we_cty ?_ | refine we_cref ?_
    | refine we_op ?_ | refine we_andV ?_ | refine we_orV ?_ | refine we_notV ?_ | refine we_3 ?_ | refine we_ifx ?_ | refine we_cstr ?_ | refine we_clH ?_)
  | walk_at "fld_1"
  | walk_at "useWe_1")
local macro_rules | `(tactic| walk_at "useW2_1") => `(tactic| first
  | (with_reducible refine w2_eqRN ?_) | (with_reducible refine w2_eqLN ?_) | (with_reducible refine w2_eqLli ?_) | (with_reducible refine w2_eqLi ?_)
  | (with_reducible refine w2_ixT ⟨ix_map0 ?_, ?_⟩) | (with_reducible refine w2_ixL ⟨ix_map0 ?_, ?_⟩) | (with_reducible refine w2_ixT ⟨ix_map ?_, ?_⟩) | (with_reducible refine w2_ixL ⟨ix_map ?_, ?_⟩)
  | (with_reducible refine w2_addO (by assumption) (by decide) .fixed .fixed ?_) | (with_reducible refine w2_subO (by assumption) (by decide) .fixed .fixed ?_) | (with_reducible refine w2_mulO (by assumption) (by decide) .fixed .fixed ?_) | (with_reducible refine w1_negO (by assumption) (by decide) .fixed ?_)
  | (with_reducible refine w2_catL .lst .lst ?_ ?_) | fail)
local macro_rules | `(tactic| walk_at "sW2_1") => `(tactic| first
  | (with_reducible first
    | refine w2_add ?_ | refine w2_sub ?_ | refine w2_mul ⟨?_, ?_⟩ | refine w2_fdiv ⟨?_, ?_⟩ | refine w2_mod ⟨?_, ?_⟩ | refine w2_pow ⟨?_, ?_⟩ | refine w2_eqI ?_ | refine w2_neI ?_ | refine w2_lt ?_ | refine w2_le ?_ | refine w2_gt ?_ | refine w2_ge ?_ | refine w2_eqFI ?_ | refine w2_neFI ?_)
  | ((with_reducible refine w2_ixT (d := ?d) ⟨?hv, ?hk⟩); case hv => rfl)
  | ((with_reducible refine w2_ixL (d := ?d) ⟨?hv, ?hk⟩); case hv => rfl)
  | ((with_reducible refine w2_ixM (d := ?d) .head ⟨?hv, ?hk⟩); case hv => rfl)
  | (with_reducible first
    | refine w2_eqIH ?_ | refine w2_neIH ?_ | refine w2_mulH ⟨?_, ?_⟩ | refine w2_addH ?_ | refine w2_subH ?_ | refine w2_isN ?_ | refine w2_notN ?_ | refine w2_isB ?_ | refine w2_notB ?_)
  | walk_at "useW2_1")
local macro_rules | `(tactic| walk_at "sWa_1") => `(tactic| with_reducible first | refine wa_nil ?_ | refine wa_cons ?_)
local macro_rules | `(tactic| walk_at "useWs_1") => `(tactic| first | (with_reducible refine ws_rs0 ?_) | (with_reducible refine ws_rs ?_) | fail)
local macro_rules | `(tactic| walk_at "sWs_1") => `(tactic| first
  | (with_reducible first | refine ws_seq ?_ | refine ws_ret ?_ | refine ws_asg ?_ | refine ws_next ?_ | refine ws_drop ?_ | refine ws_par ?_ | refine ws_par3 ?_ | refine ws_fldN ?_ | refine ws_brk ?_ | refine ws_cont ?_)
  | walk_at "useWs_1")
local macro_rules | `(tactic| walk_at "sWt_1") => `(tactic| with_reducible first | refine wt_test ?_ | refine wt_tr ?_ | refine wt_and ?_ | refine wt_or ?_ | refine wt_not ?_)
local macro_rules | `(tactic| walk_at "useWc_1") => `(tactic| first
  | (with_reducible refine wc_len (SeqM.len (by assumption)) ?_) | (with_reducible refine wc_sumG ?_) | (with_reducible refine wc_sumI ?_) | (with_reducible refine wc_tupleL .tup ?_) | (with_reducible refine wc_tupleL .lst ?_) | (with_reducible refine wc_listF .tup ?_) | (with_reducible refine wc_listF .lst ?_) | fail)
local macro_rules | `(tactic| walk_at "sWc_1") => `(tactic| first
  | (with_reducible first | refine wc_int ?_ | refine wc_abs ?_ | refine wc_min ?_ | refine wc_gcd ?_ | refine wc_isiT .int kit_ii ?_ | refine wc_isiT .int kit_ib ?_ | refine wc_len .lst ?_ | refine wc_len .tup ?_ | refine wc_strI ?_ ?_)
  | walk_at "useWc_1")
local macro_rules | `(tactic| walk_at "sWi_1") => `(tactic| with_reducible first | refine wi_seq ?_ | refine wi_rng1S ?_ | refine wi_rng2 ?_ | refine wi_zipM ?_)
local macro_rules | `(tactic| walk_at "sWg_1") => `(tactic| with_reducible first | refine wg_name ?_ | refine wg_subM ?_ | refine wg_tup rfl ?_)
local macro_rules | `(tactic| walk_at "sW1_1") => `(tactic| first | (with_reducible refine w1_neg ?_) | walk_at "useW2_1")
local macro_rules | `(tactic| walk_at "sWgs_1") => `(tactic| with_reducible first | refine wgs_cons ?_ | refine wgs_nil ?_)
local macro_rules | `(tactic| walk_at "sS_1") => `(tactic| first | (with_reducible refine SlA.mk ?_ ?_) | (with_reducible refine RngA.mk ?_ ?_) | (with_reducible refine LcS.mk ?_ (fun a ha q => ?_) ?_) | (with_reducible exact LcL.mk rfl rfl) | fail)
local macro_rules | `(tactic| walk_at "use_1") => `(tactic| fail)
local macro_rules | `(tactic| walk_at "sX_1") => `(tactic| first
  | (with_reducible refine ⟨_, rfl, ?_⟩)
  | (with_reducible refine fld_top (by assumption) ?_) | (with_reducible refine fld_bottom (by assumption) ?_)
  | (with_reducible refine ⟨_, .bl, ?_⟩)
  | ((with_reducible refine ⟨?h, ?_⟩); case h => rfl)
  | (with_reducible refine ⟨_, _, rfl, ?_⟩)
  | (with_reducible refine ⟨_, _, _, rfl, ?_⟩)
  | walk_at "use_1"
  | (with_reducible refine setN_top (by assumption) ?_) | (with_reducible refine setN_bottom (by assumption) ?_)
  | ((with_reducible refine ⟨_, _, _, ?j, _, rfl, rfl, .head, ?h, .head, ?_⟩); case h => rfl)
  | fail)
local macro_rules | `(tactic| walk_at "st_1") => `(tactic| first
  | ((with_reducible show We _ _ _ _ _ _); walk_at "sWe_1")
  | ((with_reducible show W2 _ _ _ _ _ _ _ _); walk_at "sW2_1")
  | ((with_reducible show Wa _ _ _ _ _ _); walk_at "sWa_1")
  | ((with_reducible show Ws _ _ _ _ _ _); walk_at "sWs_1")
  | ((with_reducible show Wt _ _ _ _ _ _); walk_at "sWt_1")
  | ((with_reducible show Wc _ _ _ _ _ _ _); walk_at "sWc_1")
  | ((with_reducible show Wi _ _ _ _ _ _); walk_at "sWi_1")
  | ((with_reducible show Wg _ _ _ _ _ _ _); walk_at "sWg_1")
  | ((with_reducible show W1 _ _ _ _ _ _ _); walk_at "sW1_1")
  | ((with_reducible show Wgs _ _ _ _ _ _ _); walk_at "sWgs_1")
  | walk_at "sS_1" | walk_at "sX_1" | fail)
local macro_rules | `(tactic| walk_at "wif_1") => `(tactic| (with_reducible refine ws_if ?_))
local macro_rules | `(tactic| walk_at "br_1") => `(tactic| ((with_reducible refine ⟨fun hb => ?_, fun hb => ?_⟩) <;> (try simp only [decide_eq_true_eq, decide_eq_false_iff_not, Bool.not_eq_true', Bool.not_eq_false', Bool.and_eq_true, Bool.or_eq_true, reduceCtorEq, List.length_map, Bool.not_true, Bool.not_false, DL.isNon, not_true_eq_false, not_false_eq_true, Classical.not_not, List.all_cons, List.all_nil, id_eq, Bool.and_self, Bool.true_and, decide_true, decide_false] at hb)))
local macro_rules | `(tactic| walk_at "go_1") => `(tactic| repeat' (first | walk_at "st_1" | walk_at "wif_1" | walk_at "br_1" | fail))

section
variable {G : Gx} {C_Ratio C_Grid C_BadShape C_BadPlace C_CarryError : Addr}
theorem ok_shape (T : Txt G C_Ratio C_Grid C_BadShape C_BadPlace C_CarryError) {f : Addr} {fd : FuncData} (F : L2.Fun G.K "_check_shape" "_check_shape" s__check_shape f fd) (b : L2.Binds G.K fd ["rows"] []) : Fnx G 1 f 1 S_shape [] := by
  refine fnx_of F sc__check_shape rfl b .nil rfl (fun cdv A outer s H FF hr tk => ⟨_, (pss_cons (ps_if (pt_cm os_gt (pe_cb cs_len rfl T.n_len bt_len (pa_cons (pe_var (i := 0) rfl (Or.inl rfl) nd_rows.1 nd_rows.2) pa_nil)) (pe_gcD rfl T.gc_MOST_PLACES) (nomark _)) (pss_one (ps_rs0 T.x0_BadShape rfl tk rfl)) pss_nil) (pss_one (ps_for (passes_of rfl) rfl (pi_seq (pe_var (i := 0) rfl (Or.inl rfl) nd_rows.1 nd_rows.2)) (pg_name (i := 1) sc__check_shape.nd rfl (Or.inl rfl)) (pss_cons (ps_if (pt_cm (os_neF hr tk) (pe_cb cs_len rfl T.n_len bt_len (pa_cons (pe_var (i := 1) rfl (Or.inl rfl) nd_row.1 nd_row.2) pa_nil)) (pe_cb cs_len rfl T.n_len bt_len (pa_cons (pe_ix ix_seq (pe_var (i := 0) rfl (Or.inl rfl) nd_rows.1 nd_rows.2) pe_int (fun _ _ => rfl)) pa_nil)) (nomark _)) (pss_one (ps_rs0 T.x0_BadShape rfl tk rfl)) pss_nil) (pss_one (ps_if (pt_cm os_gt (pe_cb cs_len rfl T.n_len bt_len (pa_cons (pe_var (i := 1) rfl (Or.inl rfl) nd_row.1 nd_row.2) pa_nil)) (pe_gcD rfl T.gc_MOST_PLACES) (nomark _)) (pss_one (ps_rs0 T.x0_BadShape rfl tk rfl)) pss_nil)))))), ?_⟩)
  rintro ds m K E - ⟨rows, w, rfl, rc, k⟩
  show Ws _ _ _ [some (lli rows), none] _ _
  dsimp only [cx_G, cx_K]
  have hl := rc.hl
  have hw := rc.wl
  walk_at "go_1"
  · omega
  refine ws_seqI ?_
  walk_at "go_1"
  refine ⟨_, fun i r' m' => m' = m ∧ ∃ o, r' = [some (lli rows), o], .lst, ⟨rfl, none, rfl⟩, ?_, fun r' m' ⟨e, _⟩ => by subst e; exact k⟩
  rintro i x r' m' hx ⟨rfl, o, rfl⟩
  obtain ⟨row, hrow, rfl⟩ := get_map hx
  have hm := List.mem_of_getElem? hrow
  have e1 := rc.wid row hm
  have p0 : 0 < rows.length := List.length_pos_of_mem hm
  have e0 := rc.wid _ (mem_at p0)
  walk_at "go_1"
  all_goals first | omega | exact ⟨_, rfl⟩
theorem ok_cdiv (T : Txt G C_Ratio C_Grid C_BadShape C_BadPlace C_CarryError) {f : Addr} {fd : FuncData} (F : L2.Fun G.K "_common_divisor" "_common_divisor" s__common_divisor f fd) (b : L2.Binds G.K fd ["rows", "over"] []) : Fnx G 1 f 2 S_cdiv [] := by
  refine fnx_of F sc__common_divisor rfl b .nil rfl (fun cdv A outer s H FF hr tk => ⟨_, (pss_cons (ps_set (i := 2) sc__common_divisor.nd rfl (Or.inl rfl) (pe_var (i := 1) rfl (Or.inl rfl) nd_over.1 nd_over.2)) (pss_cons (ps_for (passes_of rfl) rfl (pi_seq (pe_var (i := 0) rfl (Or.inl rfl) nd_rows.1 nd_rows.2)) (pg_name (i := 3) sc__common_divisor.nd rfl (Or.inl rfl)) (pss_one (ps_for (passes_of rfl) rfl (pi_seq (pe_var (i := 3) rfl (Or.inl rfl) nd_row.1 nd_row.2)) (pg_name (i := 4) sc__common_divisor.nd rfl (Or.inl rfl)) (pss_cons (ps_if (pt_cm (os_eqF hr tk) (pe_var (i := 2) rfl (Or.inl rfl) nd_divisor.1 nd_divisor.2) pe_int (nomark _)) (pss_one (ps_ret pe_int)) pss_nil) (pss_one (ps_set (i := 2) sc__common_divisor.nd rfl (Or.inl rfl) (pe_cf cs_gcd rfl T.mg_gcd (pa_cons (pe_var (i := 2) rfl (Or.inl rfl) nd_divisor.1 nd_divisor.2) (pa_cons (pe_var (i := 4) rfl (Or.inl rfl) nd_number.1 nd_number.2) pa_nil))))))))) (pss_one (ps_ret (pe_var (i := 2) rfl (Or.inl rfl) nd_divisor.1 nd_divisor.2))))), ?_⟩)
  rintro ds m K E - ⟨rows, over, rfl, op, k⟩
  show Ws _ _ _ [some (lli rows), some (.int over), none, none, none] _ _
  dsimp only [cx_G, cx_K]
  -- the divisor by now
  let R0 : Int → Option D → Option D → Rho := fun d o1 o2 => [some (lli rows), some (.int over), some (.int d), o1, o2]
  walk_at "go_1"
  refine ws_seqI ?_
  walk_at "go_1"
  refine ⟨_, fun i r' m' => m' = m ∧ ∃ o1 o2, r' = R0 ((gA over.natAbs (rows.take i).flatten : Nat) : Int) o1 o2, .lst, ⟨rfl, none, none, ?_⟩, ?_, ?_⟩
  · have e : ((gA over.natAbs ([] : List Int) : Nat) : Int) = over := by rw [gA_nil]; omega
    rw [List.take_zero, List.flatten_nil, e]
    rfl
  · rintro i x r' m' hx ⟨rfl, o1, o2, rfl⟩
    obtain ⟨row, hrow, rfl⟩ := get_map hx
    have et : (rows.take (i + 1)).flatten = (rows.take i).flatten ++ row := by
      rw [List.take_add_one, hrow]
      simp
    walk_at "go_1"
    refine ws_seqI ?_
    walk_at "go_1"
    refine ⟨_, fun j r' m' => m' = _ ∧ ∃ o2, r' = R0 ((gA over.natAbs ((rows.take i).flatten ++ row.take j) : Nat) : Int) (some (li row)) o2, .lst, ⟨rfl, o2, by rw [List.take_zero, List.append_nil]; rfl⟩, ?_, ?_⟩
    · rintro j y r' m' hy ⟨rfl, o2, rfl⟩
      obtain ⟨z, hz, rfl⟩ := get_map hy
      have ez : row.take (j + 1) = row.take j ++ [z] := by
        rw [List.take_add_one, hz]
        rfl
      walk_at "go_1"
      · have e1 : gA over.natAbs ((rows.take i).flatten ++ row.take j) = 1 := by
          have := ‹_ = (1 : Int)›
          omega
        have e2 : gcv rows over = 1 := by
          have d : gcv rows over ∣ 1 := by
            rw [← e1]
            refine dvd_gA gA_dvd.1 fun x hx => gA_dvd.2 x ?_
            have s1 : (rows.take i).flatten ++ row.take j = (rows.take i).flatten ++ row.take j := rfl
            rcases List.mem_append.mp hx with h | h
            · obtain ⟨l, hl, hx⟩ := List.mem_flatten.mp h
              exact List.mem_flatten.mpr ⟨l, List.mem_of_mem_take hl, hx⟩
            · exact List.mem_flatten.mpr ⟨row, List.mem_of_getElem? hrow, List.mem_of_mem_take h⟩
          exact Nat.dvd_one.mp d
        rw [e2] at k
        exact k
      · refine ⟨some (.int z), ?_⟩
        rw [ez, ← List.append_assoc, gA_app (ys := [z])]
        rfl
    · rintro r' m' ⟨rfl, o2, rfl⟩
      refine ⟨rfl, some (li row), o2, ?_⟩
      rw [et, List.length_map, List.take_length]
  · rintro r' m' ⟨rfl, o1, o2, rfl⟩
    rw [List.length_map, List.take_length]
    walk_at "go_1"
    exact k
local macro_rules | `(tactic| walk_at "fld_2") => `(tactic| (with_reducible refine we_fldF ?_))
local macro_rules | `(tactic| walk_at "useWe_2") => `(tactic| first
  | ((with_reducible apply we_lcs); case gk => first | exact gk_name rfl | exact gk_tup (gks_cons (gk_name rfl) (gks_cons (gk_name rfl) gks_nil)))
  | (with_reducible refine we_slPre ?_) | (with_reducible refine we_slSuf ?_) | (with_reducible refine we_app ?_) | (with_reducible refine we_mt ?_) | (with_reducible refine we_grd ?_) | (with_reducible refine we_ratQ ?_) | (with_reducible refine we_ratQ1 ?_) | fail)
local macro_rules | `(tactic| walk_at "sWe_2") => `(tactic| first
  | ((with_reducible refine we_var (d := ?d) ?hv ?hk); case hv => rfl)
  | (with_reducible first
    | refine we_cint ?_ | refine we_2 ?_ | refine we_cl0 ?_ | refine we_tup ?_ | refine we_1 ?_ | refine we_c2 ?_ | refine we_cbl ?_ | refine we_cnon ?_ | refine we_cty ?_ | refine we_cref ?_
    | refine we_op ?_ | refine we_andV ?_ | refine we_orV ?_ | refine we_notV ?_ | refine we_3 ?_ | refine we_ifx ?_ | refine we_cstr ?_ | refine we_clH ?_)
  | walk_at "fld_2"
  | walk_at "useWe_2")
local macro_rules | `(tactic| walk_at "useW2_2") => `(tactic| first
  | (with_reducible refine w2_eqRN ?_) | (with_reducible refine w2_eqLN ?_) | (with_reducible refine w2_eqLli ?_) | (with_reducible refine w2_eqLi ?_)
  | (with_reducible refine w2_ixT ⟨ix_map0 ?_, ?_⟩) | (with_reducible refine w2_ixL ⟨ix_map0 ?_, ?_⟩) | (with_reducible refine w2_ixT ⟨ix_map ?_, ?_⟩) | (with_reducible refine w2_ixL ⟨ix_map ?_, ?_⟩)
  | (with_reducible refine w2_addO (by assumption) (by decide) .fixed .fixed ?_) | (with_reducible refine w2_subO (by assumption) (by decide) .fixed .fixed ?_) | (with_reducible refine w2_mulO (by assumption) (by decide) .fixed .fixed ?_) | (with_reducible refine w1_negO (by assumption) (by decide) .fixed ?_)
  | (with_reducible refine w2_catL .lst .lst ?_ ?_) | fail)
local macro_rules | `(tactic| walk_at "sW2_2") => `(tactic| first
  | (with_reducible first
    | refine w2_add ?_ | refine w2_sub ?_ | refine w2_mul ⟨?_, ?_⟩ | refine w2_fdiv ⟨?_, ?_⟩ | refine w2_mod ⟨?_, ?_⟩ | refine w2_pow ⟨?_, ?_⟩ | refine w2_eqI ?_ | refine w2_neI ?_ | refine w2_lt ?_ | refine w2_le ?_ | refine w2_gt ?_ | refine w2_ge ?_ | refine w2_eqFI ?_ | refine w2_neFI ?_)
  | ((with_reducible refine w2_ixT (d := ?d) ⟨?hv, ?hk⟩); case hv => rfl)
  | ((with_reducible refine w2_ixL (d := ?d) ⟨?hv, ?hk⟩); case hv => rfl)
  | ((with_reducible refine w2_ixM (d := ?d) .head ⟨?hv, ?hk⟩); case hv => rfl)
  | (with_reducible first
    | refine w2_eqIH ?_ | refine w2_neIH ?_ | refine w2_mulH ⟨?_, ?_⟩ | refine w2_addH ?_ | refine w2_subH ?_ | refine w2_isN ?_ | refine w2_notN ?_ | refine w2_isB ?_ | refine w2_notB ?_)
  | walk_at "useW2_2")
local macro_rules | `(tactic| walk_at "sWa_2") => `(tactic| with_reducible first | refine wa_nil ?_ | refine wa_cons ?_)
local macro_rules | `(tactic| walk_at "useWs_2") => `(tactic| first | (with_reducible refine ws_rs0 ?_) | (with_reducible refine ws_rs ?_) | fail)
local macro_rules | `(tactic| walk_at "sWs_2") => `(tactic| first
  | (with_reducible first | refine ws_seq ?_ | refine ws_ret ?_ | refine ws_asg ?_ | refine ws_next ?_ | refine ws_drop ?_ | refine ws_par ?_ | refine ws_par3 ?_ | refine ws_fldN ?_ | refine ws_brk ?_ | refine ws_cont ?_)
  | walk_at "useWs_2")
local macro_rules | `(tactic| walk_at "sWt_2") => `(tactic| with_reducible first | refine wt_test ?_ | refine wt_tr ?_ | refine wt_and ?_ | refine wt_or ?_ | refine wt_not ?_)
local macro_rules | `(tactic| walk_at "useWc_2") => `(tactic| first
  | (with_reducible refine wc_len (SeqM.len (by assumption)) ?_) | (with_reducible refine wc_sumG ?_) | (with_reducible refine wc_sumI ?_) | (with_reducible refine wc_tupleL .tup ?_) | (with_reducible refine wc_tupleL .lst ?_) | (with_reducible refine wc_listF .tup ?_) | (with_reducible refine wc_listF .lst ?_) | fail)
local macro_rules | `(tactic| walk_at "sWc_2") => `(tactic| first
  | (with_reducible first | refine wc_int ?_ | refine wc_abs ?_ | refine wc_min ?_ | refine wc_gcd ?_ | refine wc_isiT .int kit_ii ?_ | refine wc_isiT .int kit_ib ?_ | refine wc_len .lst ?_ | refine wc_len .tup ?_ | refine wc_strI ?_ ?_)
  | walk_at "useWc_2")
local macro_rules | `(tactic| walk_at "sWi_2") => `(tactic| with_reducible first | refine wi_seq ?_ | refine wi_rng1S ?_ | refine wi_rng2 ?_ | refine wi_zipM ?_)
local macro_rules | `(tactic| walk_at "sWg_2") => `(tactic| with_reducible first | refine wg_name ?_ | refine wg_subM ?_ | refine wg_tup rfl ?_)
local macro_rules | `(tactic| walk_at "sW1_2") => `(tactic| first | (with_reducible refine w1_neg ?_) | walk_at "useW2_2")
local macro_rules | `(tactic| walk_at "sWgs_2") => `(tactic| with_reducible first | refine wgs_cons ?_ | refine wgs_nil ?_)
local macro_rules | `(tactic| walk_at "sS_2") => `(tactic| first | (with_reducible refine SlA.mk ?_ ?_) | (with_reducible refine RngA.mk ?_ ?_) | (with_reducible refine LcS.mk ?_ (fun a ha q => ?_) ?_) | (with_reducible exact LcL.mk rfl rfl) | fail)
local macro_rules | `(tactic| walk_at "sq_2") => `(tactic| first | assumption | exact SeqM.cons (by assumption) | exact SeqM.cons (SeqM.cons (by assumption)))
local macro_rules | `(tactic| walk_at "lst_2") => `(tactic| first
  | (with_reducible refine ⟨_, _, rfl, .head, ?_⟩) | (with_reducible refine ⟨_, _, _, rfl, .head, ?_, .head, ?_⟩) | (with_reducible refine ⟨_, _, .tup, ?_⟩) | (with_reducible refine ⟨_, _, .lst, ?_⟩) | (with_reducible refine ⟨_, _, (by walk_at "sq_2"), ?_⟩)
  | (with_reducible refine ⟨_, _, _, _, _, _, _, _, _, _, rfl, .tup, .tup, ?_⟩) | (with_reducible refine ⟨_, _, _, _, _, _, _, _, _, _, rfl, .tup, .lst, ?_⟩) | (with_reducible refine ⟨_, _, _, _, _, _, _, _, _, _, rfl, .tup, (by walk_at "sq_2"), ?_⟩) | (with_reducible refine ⟨_, _, _, _, _, _, _, _, _, _, rfl, .lst, .tup, ?_⟩) | (with_reducible refine ⟨_, _, _, _, _, _, _, _, _, _, rfl, .lst, .lst, ?_⟩) | (with_reducible refine ⟨_, _, _, _, _, _, _, _, _, _, rfl, .lst, (by walk_at "sq_2"), ?_⟩) | (with_reducible refine ⟨_, _, _, _, _, _, _, _, _, _, rfl, (by walk_at "sq_2"), .tup, ?_⟩) | (with_reducible refine ⟨_, _, _, _, _, _, _, _, _, _, rfl, (by walk_at "sq_2"), .lst, ?_⟩) | (with_reducible refine ⟨_, _, _, _, _, _, _, _, _, _, rfl, (by walk_at "sq_2"), (by walk_at "sq_2"), ?_⟩) | fail)
local macro_rules | `(tactic| walk_at "use_2") => `(tactic| first
  | walk_at "lst_2"
  | (with_reducible refine use_shape (by assumption) ?_) | (with_reducible refine use_cdiv (by assumption) ?_)
  | (with_reducible refine setNG (by assumption) (by assumption) (by decide +kernel) rfl ?_) | fail)
local macro_rules | `(tactic| walk_at "sX_2") => `(tactic| first
  | (with_reducible refine ⟨_, rfl, ?_⟩)
  | (with_reducible refine fld_top (by assumption) ?_) | (with_reducible refine fld_bottom (by assumption) ?_)
  | (with_reducible refine ⟨_, .bl, ?_⟩)
  | ((with_reducible refine ⟨?h, ?_⟩); case h => rfl)
  | (with_reducible refine ⟨_, _, rfl, ?_⟩)
  | (with_reducible refine ⟨_, _, _, rfl, ?_⟩)
  | walk_at "use_2"
  | (with_reducible refine setN_top (by assumption) ?_) | (with_reducible refine setN_bottom (by assumption) ?_)
  | ((with_reducible refine ⟨_, _, _, ?j, _, rfl, rfl, .head, ?h, .head, ?_⟩); case h => rfl)
  | fail)
local macro_rules | `(tactic| walk_at "st_2") => `(tactic| first
  | ((with_reducible show We _ _ _ _ _ _); walk_at "sWe_2")
  | ((with_reducible show W2 _ _ _ _ _ _ _ _); walk_at "sW2_2")
  | ((with_reducible show Wa _ _ _ _ _ _); walk_at "sWa_2")
  | ((with_reducible show Ws _ _ _ _ _ _); walk_at "sWs_2")
  | ((with_reducible show Wt _ _ _ _ _ _); walk_at "sWt_2")
  | ((with_reducible show Wc _ _ _ _ _ _ _); walk_at "sWc_2")
  | ((with_reducible show Wi _ _ _ _ _ _); walk_at "sWi_2")
  | ((with_reducible show Wg _ _ _ _ _ _ _); walk_at "sWg_2")
  | ((with_reducible show W1 _ _ _ _ _ _ _); walk_at "sW1_2")
  | ((with_reducible show Wgs _ _ _ _ _ _ _); walk_at "sWgs_2")
  | walk_at "sS_2" | walk_at "sX_2" | fail)
local macro_rules | `(tactic| walk_at "wif_2") => `(tactic| (with_reducible refine ws_if ?_))
local macro_rules | `(tactic| walk_at "br_2") => `(tactic| ((with_reducible refine ⟨fun hb => ?_, fun hb => ?_⟩) <;> (try simp only [decide_eq_true_eq, decide_eq_false_iff_not, Bool.not_eq_true', Bool.not_eq_false', Bool.and_eq_true, Bool.or_eq_true, reduceCtorEq, List.length_map, Bool.not_true, Bool.not_false, DL.isNon, not_true_eq_false, not_false_eq_true, Classical.not_not, List.all_cons, List.all_nil, id_eq, Bool.and_self, Bool.true_and, decide_true, decide_false] at hb)))
local macro_rules | `(tactic| walk_at "go_2") => `(tactic| repeat' (first | walk_at "st_2" | walk_at "wif_2" | walk_at "br_2" | fail))
theorem ok_gmake (T : Txt G C_Ratio C_Grid C_BadShape C_BadPlace C_CarryError) (c__check_shape : Cal G 1 "_check_shape" 1 S_shape []) (c__common_divisor : Cal G 1 "_common_divisor" 2 S_cdiv []) {f : Addr} {fd : FuncData} {dvs : List V} (F : FunW G.K "__init__" "Grid.__init__" s_Grid___init__ dvs f fd) {ds : List Value} {dd : List D} (b : L2.Binds G.K fd ["self", "rows", "over"] ds) (d : L2.Vals (dd.map ofD) ds) (cs : dd.all isC = true) : Fnx G 2 f 3 (S_gmake C_Grid) dd := by
  refine fnx_ofD F sc_Grid___init__ rfl b d cs (fun cdv A outer s H FF hr tk => ⟨_, (pss_cons (ps_expr (pe_cl c__check_shape hr (by decide) tk rfl (pa_cons (pe_var (i := 1) rfl (Or.inl rfl) nd_rows.1 nd_rows.2) pa_nil))) (pss_cons (ps_if (pt_cm os_lt (pe_var (i := 2) rfl (Or.inl rfl) nd_over.1 nd_over.2) pe_int (nomark _)) (pss_one ps_never) pss_nil) (pss_cons (ps_set (i := 3) sc_Grid___init__.nd rfl (Or.inr rfl) (pe_cl c__common_divisor hr (by decide) tk rfl (pa_cons (pe_var (i := 1) rfl (Or.inl rfl) nd_rows.1 nd_rows.2) (pa_cons (pe_var (i := 2) rfl (Or.inl rfl) nd_over.1 nd_over.2) pa_nil)))) (pss_cons (ps_if (pt_cm (os_eqF hr tk) (pe_var (i := 3) rfl (Or.inr (Or.inl rfl)) nd_divisor.1 nd_divisor.2) pe_int (nomark _)) (pss_one (ps_fld (pe_var (i := 0) rfl (Or.inl rfl) nd_self.1 nd_self.2) (pe_ct (oc := cTupleF G) cs_tuple rfl T.n_tuple bt_tuple (pa_cons (pe_lc (own := [("row", 4)]) (g := (gName 4)) (tt := tYes) rfl sc_Grid___init__.nd (pi_seqK (KK := G.K) (by rfl) (pe_var (i := 1) rfl (Or.inl rfl) nd_rows.1 nd_rows.2)) (blkOk_by (N := N_Grid___init__) (sc := (defScope s_Grid___init__)) (by decide +kernel)) (fun _ _ _ _ _ => (pg_name (i := 4) sc_Grid___init__.nd rfl (Or.inl rfl))) (fun _ _ _ _ _ => pts_nil) (fun _ _ _ _ _ => (pe_ct (oc := cTupleF G) cs_tuple rfl T.n_tuple bt_tuple (pa_cons (pe_var (i := 4) rfl (Or.inl rfl) nd_row.1 nd_row.2) pa_nil)))) pa_nil)) rfl)) (pss_one (ps_fld (pe_var (i := 0) rfl (Or.inl rfl) nd_self.1 nd_self.2) (pe_ct (oc := cTupleF G) cs_tuple rfl T.n_tuple bt_tuple (pa_cons (pe_lc (own := [("row", 4)]) (g := (gName 4)) (tt := tYes) rfl sc_Grid___init__.nd (pi_seqK (KK := G.K) (by rfl) (pe_var (i := 1) rfl (Or.inl rfl) nd_rows.1 nd_rows.2)) (blkOk_by (N := N_Grid___init__) (sc := (defScope s_Grid___init__)) (by decide +kernel)) (fun _ _ _ _ _ => (pg_name (i := 4) sc_Grid___init__.nd rfl (Or.inl rfl))) (fun _ _ _ _ _ => pts_nil) (fun _ _ _ _ _ => (pe_ct (oc := cTupleF G) cs_tuple rfl T.n_tuple bt_tuple (pa_cons (pe_lc (own := [("number", 5)]) (g := (gName 5)) (tt := tYes) rfl sc_Grid___init__.nd (pi_seqK (KK := G.K) (by rfl) (pe_var (i := 4) rfl (Or.inl rfl) nd_row.1 nd_row.2)) (blkOk_by (N := N_Grid___init__) (sc := (relS _ (defScope s_Grid___init__))) (by decide +kernel)) (fun _ _ _ _ _ => (pg_name (i := 5) sc_Grid___init__.nd rfl (Or.inl rfl))) (fun _ _ _ _ _ => pts_nil) (fun _ _ _ _ _ => (pe_bin os_fdiv (pe_var (i := 5) rfl (Or.inl rfl) nd_number.1 nd_number.2) (pe_var (i := 3) rfl (Or.inr (Or.inl rfl)) nd_divisor.1 nd_divisor.2)))) pa_nil)))) pa_nil)) rfl))) (pss_cons (ps_fld (pe_var (i := 0) rfl (Or.inl rfl) nd_self.1 nd_self.2) (pe_bin os_fdiv (pe_var (i := 2) rfl (Or.inl rfl) nd_over.1 nd_over.2) (pe_var (i := 3) rfl (Or.inr (Or.inl rfl)) nd_divisor.1 nd_divisor.2)) rfl) (pss_cons (ps_fld (pe_var (i := 0) rfl (Or.inl rfl) nd_self.1 nd_self.2) (pe_cb cs_len rfl T.n_len bt_len (pa_cons (pe_var (i := 1) rfl (Or.inl rfl) nd_rows.1 nd_rows.2) pa_nil)) rfl) (pss_one (ps_fld (pe_var (i := 0) rfl (Or.inl rfl) nd_self.1 nd_self.2) (pe_ifExp (pt_cm os_gt (pe_cb cs_len rfl T.n_len bt_len (pa_cons (pe_var (i := 1) rfl (Or.inl rfl) nd_rows.1 nd_rows.2) pa_nil)) pe_int (nomark _)) (pe_cb cs_len rfl T.n_len bt_len (pa_cons (pe_ix ix_seq (pe_var (i := 1) rfl (Or.inl rfl) nd_rows.1 nd_rows.2) pe_int (fun _ _ => rfl)) pa_nil)) pe_int) rfl)))))))), ?_⟩)
  rintro ds m K E - ⟨x, m0, rows, over, w, rfl, rfl, rc, op, ob, k⟩
  show Ws _ _ _ [some (.ref x), some (lli rows), some (.int over), none, none, none] _ _
  try dsimp only [cx_G, cx_K]
  obtain ⟨GI, y1, y2, y3, y4⟩ := T.D_Grid
  have GC := GI.cl
  have hl := rc.hl
  have hw := rc.wl
  have gp : 0 < ((gcv rows over : Nat) : Int) := by have := gcv_pos (rows := rows) op; omega
  have gl : ((gcv rows over : Nat) : Int) ≤ over := Int.le_of_dvd op gcv_dvd.1
  have hcd : ∀ z : Int, CDivX z ((gcv rows over : Nat) : Int) := fun z => (show Bd 8000 ((gcv rows over : Nat) : Int) by unfold Bd at *; omega).divX (by omega) (by decide)
  have ble : ∀ row ∈ rows, Nat.ble row.length 100000 = true := fun row hr => Nat.ble_eq_true_of_le (by rw [rc.wid row hr]; omega)
  have red : tti (redR rows (gcv rows over)) = .tup (rows.map fun row => .tup (row.map fun y => .int (y.fdiv ((gcv rows over : Nat) : Int)))) := by
    unfold redR
    simp only [tti, tup, List.map_map]
    congr 2
    funext row
    simp only [Function.comp_def, fdiv_pos gp]
    show D.tup (List.map D.int (List.map _ row)) = _
    rw [List.map_map]
    rfl
  have red1 : ((gcv rows over : Nat) : Int) = 1 → tti (redR rows (gcv rows over)) = .tup (rows.map fun row => .tup (row.map D.int)) := fun e => by
    rw [show gcv rows over = 1 by omega, redR_one]
  have fin : ∀ (X wd : D), tti (redR rows (gcv rows over)) = X → wd = .int (w : Nat) → K .non ((x, .ins C_Grid gN [X, .int (over.fdiv ((gcv rows over : Nat) : Int)), .int ((rows.map li).length : Nat), wd]) :: m0) := fun X wd e1 e2 => by
    subst e1 e2
    rw [List.length_map, fdiv_pos gp]
    exact k
  have w0 : ¬ (0 : Int) < (rows.length : Nat) → D.int 0 = .int (w : Nat) := fun h => by
    have e : rows = [] := List.eq_nil_of_length_eq_zero (by omega)
    rw [rc.ne e]
    rfl
  have w1 : (0 : Int) < (rows.length : Nat) → D.int ((rows[0]!.map D.int).length : Nat) = .int (w : Nat) := fun h => by
    rw [List.length_map, rc.wid _ (mem_at (by omega))]
  walk_at "go_2"
  all_goals try first | omega | (show (0 : Nat) < rows.length; omega) | exact Int.ofNat_lt.mp ‹(0 : Int) < (rows.length : Nat)› | exact hcd _ | exact ble _ ‹_› | exact Nat.ble_eq_true_of_le (by omega) | exact fin _ _ (red1 ‹_›) (w0 ‹_›) | exact fin _ _ red (w0 ‹_›) | exact fin _ _ (red1 ‹_›) (w1 ‹_›) | exact fin _ _ red (w1 ‹_›)

end
end K10
set_option Elab.async false
set_option linter.all false
set_option maxRecDepth 100000
/-! MG: determinants by the first row; small tables. -/
namespace DL
open PySem PySem.Spec L2
open PyProof.Rows hiding St
/-- n rows of n numbers -/
structure Sq (n : Nat) (rows : List (List Int)) : Prop where
  len : rows.length = n
  wid : ∀ r ∈ rows, r.length = n
def cutC (j : Nat) (r : List Int) : List Int := r.take j ++ r.drop (j + 1)
def minor (rows : List (List Int)) (j : Nat) : List (List Int) := rows.tail.map (cutC j)
def sg (j : Nat) : Int := if j % 2 = 0 then 1 else -1
def detF : Nat → List (List Int) → Int
  | 0, _ => 1
  | k + 1, rows => ((List.range (k + 1)).map fun j => sg j * (rows[0]!)[j]! * detF k (minor rows j)).sum
def detL (rows : List (List Int)) : Int := detF rows.length rows
theorem sg_zero : sg 0 = 1 := rfl
theorem sg_succ (j : Nat) : sg (j + 1) = -sg j := by
  unfold sg
  by_cases h : j % 2 = 0
  · rw [if_pos h, if_neg (by omega)]
  · rw [if_neg h, if_pos (by omega)]
    rfl
theorem sg_bd (j : Nat) : Bd 1 (sg j) := by
  unfold sg
  split <;> exact bd_lit (by decide)
theorem cutC_len {r : List Int} {n j : Nat} (h : r.length = n + 1) (hj : j < n + 1) : (cutC j r).length = n := by
  unfold cutC
  rw [List.length_append, List.length_take, List.length_drop]
  omega
theorem Sq.minor {n j : Nat} {rows : List (List Int)} (h : Sq (n + 1) rows) (hj : j < n + 1) : Sq n (minor rows j) := by
  refine ⟨by rw [DL.minor, List.length_map, List.length_tail, h.len]; omega, fun r hr => ?_⟩
  obtain ⟨a, ha, rfl⟩ := List.mem_map.mp hr
  exact cutC_len (h.wid a (List.mem_of_mem_tail ha)) hj
theorem szT_minor {a j : Nat} {rows : List (List Int)} (h : SzT a rows) : SzT a (minor rows j) := fun r hr z hz => by
  obtain ⟨b, hb, rfl⟩ := List.mem_map.mp hr
  rcases List.mem_append.mp hz with q | q
  · exact h b (List.mem_of_mem_tail hb) z (List.mem_of_mem_take q)
  · exact h b (List.mem_of_mem_tail hb) z (List.mem_of_mem_drop q)
theorem ce_mem {n i j : Nat} {rows : List (List Int)} (h : Sq n rows) (hi : i < n) (hj : j < n) : ce rows i j ∈ rows[i]! := mem_at (by rw [h.wid _ (mem_at (by rw [h.len]; exact hi))]; exact hj)
theorem ce_bd {a n i j : Nat} {rows : List (List Int)} (h : Sq n rows) (s : SzT a rows) (hi : i < n) (hj : j < n) : Bd a (ce rows i j) := s _ (mem_at (by rw [h.len]; exact hi)) _ (ce_mem h hi hj)
theorem detF_bd {b : Nat} : ∀ {n : Nat} {rows : List (List Int)}, Sq n rows → n ≤ 64 → SzT b rows → Bd (n * (b + 66) + 1) (detF n rows)
  | 0, _, _, _, _ => by
    show Bd _ 1
    exact (show Bd 1 (1 : Int) from bd_lit (by decide)).mono (by omega)
  | n + 1, rows, h, hn, s => by
    have key : Bd ((1 + b + (n * (b + 66) + 1)) + ((List.range (n + 1)).map fun j => sg j * (rows[0]!)[j]! * detF n (minor rows j)).length) (detF (n + 1) rows) := bd_sum fun z hz => by
      obtain ⟨j, hj, rfl⟩ := List.mem_map.mp hz
      have hj := List.mem_range.mp hj
      exact ((sg_bd j).mul (ce_bd h s (by omega) hj)).mul (detF_bd (h.minor hj) (by omega) (szT_minor s))
    refine key.mono ?_
    rw [List.length_map, List.length_range, Nat.succ_mul]
    omega
theorem Sq.row {n i : Nat} {rows : List (List Int)} (h : Sq n rows) (hi : i < n) : (rows[i]!).length = n := h.wid _ (mem_at (by rw [h.len]; exact hi))
/-! small tables as they are written -/
theorem sq0 {rows : List (List Int)} (h : Sq 0 rows) : rows = [] := List.eq_nil_of_length_eq_zero h.len
theorem len1 {α : Type} {l : List α} (h : l.length = 1) : ∃ a, l = [a] := List.length_eq_one_iff.mp h
theorem len2 {α : Type} {l : List α} (h : l.length = 2) : ∃ a b, l = [a, b] := by
  match l, h with
  | [a, b], _ => exact ⟨a, b, rfl⟩
theorem len3 {α : Type} {l : List α} (h : l.length = 3) : ∃ a b c, l = [a, b, c] := by
  match l, h with
  | [a, b, c], _ => exact ⟨a, b, c, rfl⟩
theorem sq1 {rows : List (List Int)} (h : Sq 1 rows) : ∃ a, rows = [[a]] := by
  obtain ⟨r, rfl⟩ := len1 h.len
  obtain ⟨a, rfl⟩ := len1 (h.wid r (by simp))
  exact ⟨a, rfl⟩
theorem sq2 {rows : List (List Int)} (h : Sq 2 rows) : ∃ a b c d, rows = [[a, b], [c, d]] := by
  obtain ⟨r, s, rfl⟩ := len2 h.len
  obtain ⟨a, b, rfl⟩ := len2 (h.wid r (by simp))
  obtain ⟨c, d, rfl⟩ := len2 (h.wid s (by simp))
  exact ⟨a, b, c, d, rfl⟩
theorem sq3 {rows : List (List Int)} (h : Sq 3 rows) : ∃ a b c d e f g k l, rows = [[a, b, c], [d, e, f], [g, k, l]] := by
  obtain ⟨r, s, t, rfl⟩ := len3 h.len
  obtain ⟨a, b, c, rfl⟩ := len3 (h.wid r (by simp))
  obtain ⟨d, e, f, rfl⟩ := len3 (h.wid s (by simp))
  obtain ⟨g, k, l, rfl⟩ := len3 (h.wid t (by simp))
  exact ⟨a, b, c, d, e, f, g, k, l, rfl⟩
theorem det0 : detL [] = 1 := rfl
theorem det1 {a : Int} : detL [[a]] = a := by simp [detL, detF, minor, sg, List.range, List.range.loop]
theorem det2 {a b c d : Int} : detL [[a, b], [c, d]] = a * d - b * c := by
  simp [detL, detF, minor, cutC, sg, List.range, List.range.loop]
  grind
theorem det3 {a b c d e f g k l : Int} : detL [[a, b, c], [d, e, f], [g, k, l]] = a * (e * l - f * k) - b * (d * l - f * g) + c * (d * k - e * g) := by
  simp [detL, detF, minor, cutC, sg, List.range, List.range.loop]
  grind
theorem rest_eq {rows : List (List Int)} {j i : Nat} (h : i = j + 1) : D.lst ((rows.drop 1).map fun a => .lst ((a.take j).map D.int ++ (a.drop i).map D.int)) = lli (minor rows j) := by
  subst h
  unfold minor lli
  rw [List.map_map, List.drop_one]
  congr 2
  funext a
  show _ = D.lst ((cutC j a).map D.int)
  unfold cutC
  rw [List.map_append]
theorem detF_succ (k : Nat) (rows : List (List Int)) : detF (k + 1) rows = ((List.range (k + 1)).map fun j => sg j * (rows[0]!)[j]! * detF k (minor rows j)).sum := rfl
theorem sum_snoc {f : Nat → Int} (j : Nat) : ((List.range (j + 1)).map f).sum = ((List.range j).map f).sum + f j := by
  rw [List.range_succ]
  simp
def S_det (N : Nat) : SpecD := fun ds m K _ => ∃ rows n b, ds = [lli rows] ∧ Sq n rows ∧ n ≤ N ∧ n ≤ 64 ∧ SzT b rows ∧ b ≤ 100000 ∧ K (.int (detL rows)) m
theorem use_det {N n b : Nat} {rows : List (List Int)} {d : D} {m : Mu} {K : KT} {E : Ex → Mu → Prop} (e : d = lli rows) (h : Sq n rows) (h1 : n ≤ N) (h2 : n ≤ 64) (s : SzT b rows) (hb : b ≤ 100000) (k : K (.int (detL rows)) m) : S_det N [d] m K E := ⟨rows, n, b, by rw [e], h, h1, h2, s, hb, k⟩
/-! ### the inverse by cofactors -/
def sgd (v : Int) : Int := if v < 0 then -1 else 1
def cutR (j : Nat) (rows : List (List Int)) : List (List Int) := rows.take j ++ rows.drop (j + 1)
def cof (rows : List (List Int)) (i j : Nat) : Int := detL (cutR j (rows.map (cutC i)))
def dueE (rows : List (List Int)) (over : Int) (i j : Nat) : Int := over * sg i * sgd (detL rows) * sg j * cof rows i j
def dueL (rows : List (List Int)) (over : Int) (i : Nat) : List Int := (List.range rows.length).map fun j => dueE rows over i j
def dueR (rows : List (List Int)) (over : Int) : List (List Int) := (List.range rows.length).map (dueL rows over)
theorem Sq.cut {n i j : Nat} {rows : List (List Int)} (h : Sq (n + 1) rows) (hi : i < n + 1) (hj : j < n + 1) : Sq n (cutR j (rows.map (cutC i))) := by
  refine ⟨?_, fun r hr => ?_⟩
  · unfold cutR
    rw [List.length_append, List.length_take, List.length_drop, List.length_map, h.len]
    omega
  · have hm : r ∈ rows.map (cutC i) := by
      unfold cutR at hr
      rcases List.mem_append.mp hr with q | q
      · exact List.mem_of_mem_take q
      · exact List.mem_of_mem_drop q
    obtain ⟨a, ha, rfl⟩ := List.mem_map.mp hm
    exact cutC_len (h.wid a ha) hi
theorem szT_cut {a i j : Nat} {rows : List (List Int)} (h : SzT a rows) : SzT a (cutR j (rows.map (cutC i))) := fun r hr z hz => by
  have hm : r ∈ rows.map (cutC i) := by
    unfold cutR at hr
    rcases List.mem_append.mp hr with q | q
    · exact List.mem_of_mem_take q
    · exact List.mem_of_mem_drop q
  obtain ⟨b, hb, rfl⟩ := List.mem_map.mp hm
  rcases List.mem_append.mp hz with q | q
  · exact h b hb z (List.mem_of_mem_take q)
  · exact h b hb z (List.mem_of_mem_drop q)
theorem detL_bd {n b : Nat} {rows : List (List Int)} (h : Sq n rows) (hn : n ≤ 64) (s : SzT b rows) : Bd (n * (b + 66) + 1) (detL rows) := by
  have e : detL rows = detF n rows := by rw [detL, h.len]
  rw [e]
  exact detF_bd h hn s
theorem restC_eq {rows : List (List Int)} {j : Nat} {f : List Int → D} (h : ∀ a, f a = li (cutC j a)) : rows.map f = (rows.map (cutC j)).map li := by
  rw [List.map_map]
  exact List.map_congr_left fun a _ => h a
theorem range_sn {α : Type} {f : Nat → α} (k : Nat) : (List.range (k + 1)).map f = (List.range k).map f ++ [f k] := by
  rw [List.range_succ, List.map_append]
  rfl
theorem rest2_eq {rows : List (List Int)} {i j i' j' : Nat} (hi : i' = i + 1) (hj : j' = j + 1) :
    D.lst ((rows.take j).map (fun a => D.lst ((a.take i).map D.int ++ (a.drop i').map D.int)) ++ (rows.drop j').map fun a => D.lst ((a.take i).map D.int ++ (a.drop i').map D.int)) = lli (cutR j (rows.map (cutC i))) := by
  subst hi hj
  have e : (fun a : List Int => D.lst ((a.take i).map D.int ++ (a.drop (i + 1)).map D.int)) = fun a => li (cutC i a) := by
    funext a
    show _ = D.lst ((cutC i a).map D.int)
    unfold cutC
    rw [List.map_append]
  rw [e]
  unfold cutR lli
  rw [List.map_append, ← List.map_take, ← List.map_drop, List.map_map, List.map_map]
  rfl
end DL
set_option Elab.async false
set_option linter.all false
set_option maxRecDepth 100000
/-! MH: sums by places; a table's inverse and its updates. -/
namespace DL
open PySem PySem.Spec L2
open PyProof.Rows hiding St
def sm (n : Nat) (f : Nat → Int) : Int := ((List.range n).map f).sum
section
variable {n k : Nat} {f g : Nat → Int} {c : Int}
theorem sm_zero : sm 0 f = 0 := rfl
theorem sm_succ : sm (n + 1) f = sm n f + f n := sum_snoc n
theorem sm_congr : ∀ {n : Nat}, (∀ i, i < n → f i = g i) → sm n f = sm n g
  | 0, _ => rfl
  | n + 1, h => by rw [sm_succ, sm_succ, sm_congr (n := n) fun i hi => h i (by omega), h n (by omega)]
theorem sm_add : ∀ {n : Nat}, sm n (fun i => f i + g i) = sm n f + sm n g
  | 0 => rfl
  | n + 1 => by rw [sm_succ, sm_succ, sm_succ, sm_add (n := n)]; omega
theorem sm_sub : ∀ {n : Nat}, sm n (fun i => f i - g i) = sm n f - sm n g
  | 0 => rfl
  | n + 1 => by rw [sm_succ, sm_succ, sm_succ, sm_sub (n := n)]; omega
theorem sm_mul : ∀ {n : Nat}, sm n (fun i => c * f i) = c * sm n f
  | 0 => by simp [sm]
  | n + 1 => by rw [sm_succ, sm_succ, sm_mul (n := n), Int.mul_add]
theorem sm_mulR : ∀ {n : Nat}, sm n (fun i => f i * c) = sm n f * c
  | 0 => by simp [sm]
  | n + 1 => by rw [sm_succ, sm_succ, sm_mulR (n := n), Int.add_mul]
theorem sm_swap {f : Nat → Nat → Int} : ∀ {n : Nat}, sm n (fun i => sm k (fun j => f i j)) = sm k (fun j => sm n (fun i => f i j))
  | 0 => by
    have : sm k (fun j => sm 0 (fun i => f i j)) = sm k fun _ => 0 * 0 := sm_congr fun _ _ => rfl
    rw [this, sm_mul]
    simp [sm]
  | n + 1 => by
    rw [sm_succ, sm_swap (n := n), ← sm_add]
    exact sm_congr fun j _ => sm_succ.symm
end
def dlt (i j : Nat) : Int := if i = j then 1 else 0
theorem sm_dlt {f : Nat → Int} {i : Nat} : ∀ {n : Nat}, sm n (fun j => dlt i j * f j) = if i < n then f i else 0
  | 0 => rfl
  | n + 1 => by
    rw [sm_succ, sm_dlt (n := n)]
    unfold dlt
    by_cases h : i = n
    · subst h
      simp
    · rw [if_neg h]
      by_cases h2 : i < n
      · rw [if_pos h2, if_pos (by omega)]
        omega
      · rw [if_neg h2, if_neg (by omega)]
        simp
theorem dlt_comm {i j : Nat} : dlt i j = dlt j i := by
  unfold dlt
  by_cases h : i = j
  · rw [if_pos h, if_pos h.symm]
  · rw [if_neg h, if_neg (fun e => h e.symm)]
/-- R over o is the inverse of A over q -/
structure InvF (n : Nat) (A : Nat → Nat → Int) (q : Int) (R : Nat → Nat → Int) (o : Int) : Prop where
  l : ∀ i k, i < n → k < n → sm n (fun j => A i j * R j k) = q * o * dlt i k
  r : ∀ i k, i < n → k < n → sm n (fun j => R i j * A j k) = q * o * dlt i k
section
variable {n : Nat} {A R A' R' : Nat → Nat → Int} {q o : Int}
theorem InvF.congr (h : InvF n A q R o) (ha : ∀ i j, i < n → j < n → A' i j = A i j) (hr : ∀ i j, i < n → j < n → R' i j = R i j) : InvF n A' q R' o :=
  ⟨fun i k hi hk => by rw [← h.l i k hi hk]; exact sm_congr fun j hj => by rw [ha i j hi hj, hr j k hj hk],
   fun i k hi hk => by rw [← h.r i k hi hk]; exact sm_congr fun j hj => by rw [ha j k hj hk, hr i j hi hj]⟩
/-- both numbers of the grid times g -/
theorem InvF.red {g : Int} (hg : g ≠ 0) (h : InvF n A q (fun i j => g * R i j) (g * o)) : InvF n A q R o := by
  refine ⟨fun i k hi hk => ?_, fun i k hi hk => ?_⟩
  · have e := h.l i k hi hk
    rw [show sm n (fun j => A i j * (g * R j k)) = g * sm n fun j => A i j * R j k by rw [← sm_mul]; exact sm_congr fun j _ => by ac_rfl] at e
    exact Int.eq_of_mul_eq_mul_left hg (by rw [e]; ac_rfl)
  · have e := h.r i k hi hk
    rw [show sm n (fun j => g * R i j * A j k) = g * sm n fun j => R i j * A j k by rw [← sm_mul]; exact sm_congr fun j _ => by ac_rfl] at e
    exact Int.eq_of_mul_eq_mul_left hg (by rw [e]; ac_rfl)
/-- both numbers of the table times g -/
theorem InvF.scale {g : Int} (h : InvF n A q R o) : InvF n (fun i j => g * A i j) (g * q) R o := by
  refine ⟨fun i k hi hk => ?_, fun i k hi hk => ?_⟩
  · rw [show sm n (fun j => g * A i j * R j k) = g * sm n fun j => A i j * R j k by rw [← sm_mul]; exact sm_congr fun j _ => by ac_rfl, h.l i k hi hk]
    ac_rfl
  · rw [show sm n (fun j => R i j * (g * A j k)) = g * sm n fun j => R i j * A j k by rw [← sm_mul]; exact sm_congr fun j _ => by ac_rfl, h.r i k hi hk]
    ac_rfl
theorem InvF.unscale {g : Int} (hg : g ≠ 0) (h : InvF n (fun i j => g * A i j) (g * q) R o) : InvF n A q R o := by
  refine ⟨fun i k hi hk => ?_, fun i k hi hk => ?_⟩
  · have e := h.l i k hi hk
    rw [show sm n (fun j => g * A i j * R j k) = g * sm n fun j => A i j * R j k by rw [← sm_mul]; exact sm_congr fun j _ => by ac_rfl] at e
    exact Int.eq_of_mul_eq_mul_left hg (by rw [e]; ac_rfl)
  · have e := h.r i k hi hk
    rw [show sm n (fun j => R i j * (g * A j k)) = g * sm n fun j => R i j * A j k by rw [← sm_mul]; exact sm_congr fun j _ => by ac_rfl] at e
    exact Int.eq_of_mul_eq_mul_left hg (by rw [e]; ac_rfl)
/-! the update by a row x with the weight t / d -/
abbrev imgF (n : Nat) (R : Nat → Nat → Int) (x : Nat → Int) (i : Nat) : Int := sm n fun j => R i j * x j
abbrev wrtF (n : Nat) (R : Nat → Nat → Int) (x : Nat → Int) : Int := sm n fun i => x i * imgF n R x i
abbrev chgF (n : Nat) (R : Nat → Nat → Int) (o : Int) (x : Nat → Int) (t d : Int) : Int := d * o + t * wrtF n R x
theorem InvF.update (h : InvF n A q R o) (sy : ∀ i j, i < n → j < n → R i j = R j i) {x : Nat → Int} {t d e c : Int} (hc : c = chgF n R o x t d) :
    InvF n (fun i j => A i j * d + q * t * x i * x j) (q * d) (fun i j => e * (c * R i j - t * imgF n R x i * imgF n R x j)) (o * (e * c)) := by
  have ay : ∀ i, i < n → sm n (fun j => A i j * imgF n R x j) = q * o * x i := fun i hi => by
    have e1 : sm n (fun j => A i j * imgF n R x j) = sm n fun j => sm n fun l => A i j * R j l * x l := sm_congr fun j _ => by
      rw [imgF, ← sm_mul]
      exact sm_congr fun l _ => by ac_rfl
    rw [e1, sm_swap]
    have e2 : sm n (fun l => sm n fun j => A i j * R j l * x l) = sm n fun l => dlt i l * (q * o * x l) := sm_congr fun l hl => by
      rw [sm_mulR, h.l i l hi hl]
      ac_rfl
    rw [e2, sm_dlt, if_pos hi]
  have ya : ∀ k, k < n → sm n (fun j => imgF n R x j * A j k) = q * o * x k := fun k hk => by
    have e1 : sm n (fun j => imgF n R x j * A j k) = sm n fun j => sm n fun l => R l j * A j k * x l := sm_congr fun j hj => by
      rw [imgF, ← sm_mulR]
      exact sm_congr fun l hl => by
        rw [sy j l hj hl]
        ac_rfl
    rw [e1, sm_swap]
    have e2 : sm n (fun l => sm n fun j => R l j * A j k * x l) = sm n fun l => dlt k l * (q * o * x l) := sm_congr fun l hl => by
      rw [sm_mulR, h.r l k hl hk, dlt_comm]
      ac_rfl
    rw [e2, sm_dlt, if_pos hk]
  have xr : ∀ k, k < n → sm n (fun j => x j * R j k) = imgF n R x k := fun k hk => sm_congr fun j hj => by
    rw [sy j k hj hk]
    ac_rfl
  have key : c - d * o - t * wrtF n R x = 0 := by rw [hc]; unfold chgF; omega
  refine ⟨fun i k hi hk => ?_, fun i k hi hk => ?_⟩
  · have e1 : sm n (fun j => (A i j * d + q * t * x i * x j) * (e * (c * R j k - t * imgF n R x j * imgF n R x k))) =
        sm n fun j => (e * d * c) * (A i j * R j k) + (-(e * d * t * imgF n R x k)) * (A i j * imgF n R x j) + ((e * q * t * x i * c) * (x j * R j k) + (-(e * q * t * x i * t * imgF n R x k)) * (x j * imgF n R x j)) := sm_congr fun j _ => by grind
    rw [e1, sm_add, sm_add, sm_add, sm_mul, sm_mul, sm_mul, sm_mul, h.l i k hi hk, ay i hi, xr k hk]
    have e2 : sm n (fun j => x j * imgF n R x j) = wrtF n R x := rfl
    rw [e2]
    generalize imgF n R x k = y at *
    generalize wrtF n R x = w at *
    have e3 : e * d * c * (q * o * dlt i k) + -(e * d * t * y) * (q * o * x i) + (e * q * t * x i * c * y + -(e * q * t * x i * t * y) * w) = q * d * (o * (e * c)) * dlt i k + e * q * t * x i * y * (c - d * o - t * w) := by grind
    rw [e3, key, Int.mul_zero, Int.add_zero]
  · have e1 : sm n (fun j => (e * (c * R i j - t * imgF n R x i * imgF n R x j)) * (A j k * d + q * t * x j * x k)) =
        sm n fun j => (e * d * c) * (R i j * A j k) + (-(e * d * t * imgF n R x i)) * (imgF n R x j * A j k) + ((e * q * t * x k * c) * (R i j * x j) + (-(e * q * t * x k * t * imgF n R x i)) * (x j * imgF n R x j)) := sm_congr fun j _ => by grind
    rw [e1, sm_add, sm_add, sm_add, sm_mul, sm_mul, sm_mul, sm_mul, h.r i k hi hk, ya k hk]
    have e2 : sm n (fun j => x j * imgF n R x j) = wrtF n R x := rfl
    have e2' : sm n (fun j => R i j * x j) = imgF n R x i := rfl
    rw [e2, e2']
    generalize imgF n R x i = y at *
    generalize wrtF n R x = w at *
    have e3 : e * d * c * (q * o * dlt i k) + -(e * d * t * y) * (q * o * x k) + (e * q * t * x k * c * y + -(e * q * t * x k * t * y) * w) = q * d * (o * (e * c)) * dlt i k + e * q * t * x k * y * (c - d * o - t * w) := by grind
    rw [e3, key, Int.mul_zero, Int.add_zero]
/-- the changed number of the way back -/
theorem chg_back {x : Nat → Int} {t d e c : Int} (hc : c = chgF n R o x t d) :
    chgF n (fun i j => e * (c * R i j - t * imgF n R x i * imgF n R x j)) (o * (e * c)) x (-t) d = e * (d * o) * (d * o) := by
  have iy : ∀ i, imgF n (fun i j => e * (c * R i j - t * imgF n R x i * imgF n R x j)) x i = e * d * o * imgF n R x i := fun i => by
    have e1 : imgF n (fun i j => e * (c * R i j - t * imgF n R x i * imgF n R x j)) x i = sm n fun j => (e * c) * (R i j * x j) + (-(e * t * imgF n R x i)) * (x j * imgF n R x j) := sm_congr fun j _ => by grind
    rw [e1, sm_add, sm_mul, sm_mul]
    have e2 : sm n (fun j => x j * imgF n R x j) = wrtF n R x := rfl
    have e2' : sm n (fun j => R i j * x j) = imgF n R x i := rfl
    rw [e2, e2', hc]
    unfold chgF
    generalize imgF n R x i = y at *
    generalize wrtF n R x = w at *
    grind
  have wy : wrtF n (fun i j => e * (c * R i j - t * imgF n R x i * imgF n R x j)) x = e * d * o * wrtF n R x := by
    have e1 : wrtF n (fun i j => e * (c * R i j - t * imgF n R x i * imgF n R x j)) x = sm n fun i => e * d * o * (x i * imgF n R x i) := sm_congr fun i _ => by
      show x i * imgF n _ x i = _
      rw [iy]
      ac_rfl
    rw [e1, sm_mul]
  show d * (o * (e * c)) + -t * wrtF n _ x = _
  rw [wy, hc]
  unfold chgF
  generalize wrtF n R x = w at *
  grind
end
/-! ### by lists -/
theorem zip_range : ∀ {xs ys : List Int} {n : Nat}, xs.length = n → ys.length = n → (xs.zip ys) = (List.range n).map fun j => (xs[j]!, ys[j]!) := by
  intro xs ys n hx hy
  refine List.ext_getElem (by simp [hx, hy]) fun i h1 h2 => ?_
  have l1 : i < xs.length := by simp [hx, hy] at h1; omega
  have l2 : i < ys.length := by simp [hx, hy] at h1; omega
  simp [l1, l2]
theorem dot_sm {xs ys : List Int} {n : Nat} (hx : xs.length = n) (hy : ys.length = n) : dot xs ys = sm n fun j => xs[j]! * ys[j]! := by
  unfold dot sm
  rw [zip_range hx hy, List.map_map]
  rfl
theorem zipR_range : ∀ {xs : List Int} {rows : List (List Int)} {n : Nat}, xs.length = n → rows.length = n → (xs.zip rows) = (List.range n).map fun j => (xs[j]!, rows[j]!) := by
  intro xs ys n hx hy
  refine List.ext_getElem (by simp [hx, hy]) fun i h1 h2 => ?_
  have l1 : i < xs.length := by simp [hx, hy] at h1; omega
  have l2 : i < ys.length := by simp [hx, hy] at h1; omega
  simp [l1, l2]
abbrev at0 (x : List Int) (i : Nat) : Int := x[i]!
theorem formV_wrt {rows : List (List Int)} {x : List Int} {n : Nat} (sq : Sq n rows) (hx : x.length = n) : formV rows x x = wrtF n (ce rows) (at0 x) := by
  unfold formV wrtF
  rw [zipR_range hx sq.len, List.map_map]
  exact sm_congr fun i hi => by
    show x[i]! * dot rows[i]! x = _
    rw [dot_sm (sq.row hi) hx]
theorem img_dot {rows : List (List Int)} {x : List Int} {n i : Nat} (sq : Sq n rows) (hx : x.length = n) (hi : i < n) : dot rows[i]! x = imgF n (ce rows) (at0 x) i := dot_sm (sq.row hi) hx
theorem map_at {α β : Type} [Inhabited α] [Inhabited β] {l : List α} {f : α → β} {i : Nat} (h : i < l.length) : (l.map f)[i]! = f l[i]! := by
  rw [getElem!_pos (l.map f) i (by simpa using h), getElem!_pos l i h, List.getElem_map]
theorem ce_map {rows : List (List Int)} {f : List Int → List Int} {i k : Nat} (h : i < rows.length) : ce (rows.map f) i k = (f rows[i]!)[k]! := by
  unfold ce
  rw [map_at h]
theorem range_at' {β : Type} [Inhabited β] {n i : Nat} {f : Nat → β} (h : i < n) : ((List.range n).map f)[i]! = f i := by
  rw [getElem!_pos _ i (by simpa using h), List.getElem_map, List.getElem_range]
theorem ce_red {rows : List (List Int)} {g n : Nat} {i k : Nat} (sq : Sq n rows) (hi : i < n) (hk : k < n) : ce (redR rows g) i k = ce rows i k / (g : Int) := by
  have e : ce (redR rows g) i k = ((rows[i]!).map fun x => x / (g : Int))[k]! := ce_map (by rw [sq.len]; exact hi)
  rw [e, map_at (by rw [sq.row hi]; exact hk)]
theorem sq_red {rows : List (List Int)} {n g : Nat} (sq : Sq n rows) : Sq n (redR rows g) := ⟨by rw [redR_len, sq.len], fun r hr => by
  obtain ⟨a, ha, rfl⟩ := List.mem_map.mp hr
  rw [List.length_map]
  exact sq.wid a ha⟩
theorem gcv_ce {rows : List (List Int)} {over : Int} {n i k : Nat} (sq : Sq n rows) (hi : i < n) (hk : k < n) : (gcv rows over : Int) * ce (redR rows (gcv rows over)) i k = ce rows i k := by
  rw [ce_red sq hi hk]
  exact Int.mul_ediv_cancel' (gcv_dvd.2 _ (mem_at (by rw [sq.len]; exact hi)) _ (ce_mem sq hi hk))
theorem gcv_over {rows : List (List Int)} {over : Int} : (gcv rows over : Int) * (over / (gcv rows over : Int)) = over := Int.mul_ediv_cancel' gcv_dvd.1
/-- the grid made of rows over a number is an inverse as these are -/
theorem InvF.made {n : Nat} {A : Nat → Nat → Int} {q over : Int} {rows : List (List Int)} (sq : Sq n rows) (op : 0 < over) (h : InvF n A q (ce rows) over) : InvF n A q (ce (redR rows (gcv rows over))) (over / (gcv rows over : Int)) := by
  have gp := gcv_pos (rows := rows) op
  refine InvF.red (g := (gcv rows over : Int)) (by omega) ?_
  rw [gcv_over]
  exact h.congr (fun _ _ _ _ => rfl) fun i j hi hj => gcv_ce sq hi hj
end DL
set_option Elab.async false
set_option linter.all false
set_option maxRecDepth 100000
/-! MI: small tables: the inverse by cofactors, determinants of changed tables. -/
namespace DL
open PySem PySem.Spec L2
open PyProof.Rows hiding St
theorem sg1 : sg 1 = -1 := rfl
theorem sg2 : sg 2 = 1 := rfl
theorem det_nil {n : Nat} {rows : List (List Int)} (h : rows = []) : detL rows = 1 := by rw [h]; rfl
/-! explicit forms -/
theorem cof1 {a : Int} : cof [[a]] 0 0 = 1 := rfl
theorem due1 {a over : Int} : dueR [[a]] over = [[over * sgd a]] := by
  simp [dueR, dueL, dueE, sg, det1, cof, cutR, cutC, det0]
theorem due2 {a b c d over : Int} : dueR [[a, b], [c, d]] over = (let s := over * sgd (detL [[a, b], [c, d]]); [[s * d, -(s * b)], [-(s * c), s * a]]) := by
  simp [dueR, dueL, dueE, sg, cof, cutR, cutC, List.range, List.range.loop, det1]
  grind
theorem due3 {a b c d e f g k l over : Int} : dueR [[a, b, c], [d, e, f], [g, k, l]] over = (let s := over * sgd (detL [[a, b, c], [d, e, f], [g, k, l]]);
    [[s * (e * l - f * k), -(s * (b * l - c * k)), s * (b * f - c * e)], [-(s * (d * l - f * g)), s * (a * l - c * g), -(s * (a * f - c * d))], [s * (d * k - e * g), -(s * (a * k - b * g)), s * (a * e - b * d)]]) := by
  simp [dueR, dueL, dueE, sg, cof, cutR, cutC, List.range, List.range.loop, det2]
  grind
theorem sgd_mul {v : Int} : sgd v * v = (v.natAbs : Int) := by
  unfold sgd
  split <;> omega
theorem sgd_sq {v : Int} : sgd v * sgd v = 1 := by
  unfold sgd
  split <;> rfl
theorem sgd_abs {v : Int} : sgd v * (v.natAbs : Int) = v := by
  unfold sgd
  split <;> omega
theorem sgd_ne {v : Int} : sgd v ≠ 0 := by
  unfold sgd
  split <;> decide
theorem lt1 {i : Nat} (h : i < 1) : i = 0 := by omega
theorem lt2 {i : Nat} (h : i < 2) : i = 0 ∨ i = 1 := by omega
theorem lt3 {i : Nat} (h : i < 3) : i = 0 ∨ i = 1 ∨ i = 2 := by omega
theorem dueR_sq {n : Nat} {rows : List (List Int)} {over : Int} (sq : Sq n rows) : Sq n (dueR rows over) := by
  refine ⟨by rw [dueR, List.length_map, List.length_range, sq.len], fun r hr => ?_⟩
  obtain ⟨i, _, rfl⟩ := List.mem_map.mp hr
  rw [dueL, List.length_map, List.length_range, sq.len]
theorem due_inv {n : Nat} (hn : n ≤ 3) {rows : List (List Int)} {over : Int} (sq : Sq n rows) : InvF n (ce rows) over (ce (dueR rows over)) ((detL rows).natAbs : Int) := by
  match n, hn with
  | 0, _ => exact ⟨fun i k hi => absurd hi (Nat.not_lt_zero _), fun i k hi => absurd hi (Nat.not_lt_zero _)⟩
  | 1, _ =>
    obtain ⟨a, rfl⟩ := sq1 sq
    have e := sgd_mul (v := a)
    refine ⟨fun i k hi hk => ?_, fun i k hi hk => ?_⟩ <;> rw [lt1 hi, lt1 hk, due1, det1] <;> simp [sm, List.range, List.range.loop, dlt, ce] <;> grind
  | 2, _ =>
    obtain ⟨a, b, c, d, rfl⟩ := sq2 sq
    have e := sgd_mul (v := detL [[a, b], [c, d]])
    rw [due2]
    generalize sgd (detL [[a, b], [c, d]]) = z at *
    generalize ((detL [[a, b], [c, d]]).natAbs : Int) = o at *
    rw [det2] at e
    subst e
    refine ⟨fun i k hi hk => ?_, fun i k hi hk => ?_⟩ <;> rcases lt2 hi with rfl | rfl <;> rcases lt2 hk with rfl | rfl <;> simp [sm, List.range, List.range.loop, dlt, ce] <;> grind
  | 3, _ =>
    obtain ⟨a, b, c, d, e, f, g, k, l, rfl⟩ := sq3 sq
    have h := sgd_mul (v := detL [[a, b, c], [d, e, f], [g, k, l]])
    rw [due3]
    generalize sgd (detL [[a, b, c], [d, e, f], [g, k, l]]) = z at *
    generalize ((detL [[a, b, c], [d, e, f], [g, k, l]]).natAbs : Int) = o at *
    rw [det3] at h
    subst h
    refine ⟨fun i k hi hk => ?_, fun i k hi hk => ?_⟩ <;> rcases lt3 hi with rfl | rfl | rfl <;> rcases lt3 hk with rfl | rfl | rfl <;> simp [sm, List.range, List.range.loop, dlt, ce] <;> grind
theorem due_sym {n : Nat} (hn : n ≤ 3) {rows : List (List Int)} {over : Int} (sq : Sq n rows) (sy : SymR n rows) : SymR n (dueR rows over) := by
  match n, hn with
  | 0, _ => exact fun i k hi => absurd hi (Nat.not_lt_zero _)
  | 1, _ => exact fun i k hi hk => by rw [lt1 hi, lt1 hk]
  | 2, _ =>
    obtain ⟨a, b, c, d, rfl⟩ := sq2 sq
    have h1 : b = c := by simpa [ce] using sy 0 1 (by decide) (by decide)
    subst h1
    rw [due2]
    intro i k hi hk
    rcases lt2 hi with rfl | rfl <;> rcases lt2 hk with rfl | rfl <;> simp [ce]
  | 3, _ =>
    obtain ⟨a, b, c, d, e, f, g, k, l, rfl⟩ := sq3 sq
    have h1 : b = d := by simpa [ce] using sy 0 1 (by decide) (by decide)
    have h2 : c = g := by simpa [ce] using sy 0 2 (by decide) (by decide)
    have h3 : f = k := by simpa [ce] using sy 1 2 (by decide) (by decide)
    subst h1 h2 h3
    rw [due3]
    intro i k hi hk
    rcases lt3 hi with rfl | rfl | rfl <;> rcases lt3 hk with rfl | rfl | rfl <;> simp [ce] <;> grind
/-- rows with s x x added -/
def chgR (rows : List (List Int)) (d s : Int) (x : List Int) : List (List Int) := (List.range rows.length).map fun i => (List.range x.length).map fun j => ce rows i j * d + s * x[i]! * x[j]!
theorem chgR_sq {n : Nat} {rows : List (List Int)} {d s : Int} {x : List Int} (sq : Sq n rows) (hx : x.length = n) : Sq n (chgR rows d s x) := by
  refine ⟨by rw [chgR, List.length_map, List.length_range, sq.len], fun r hr => ?_⟩
  obtain ⟨i, _, rfl⟩ := List.mem_map.mp hr
  rw [List.length_map, List.length_range, hx]
theorem chgR_ce {n i j : Nat} {rows : List (List Int)} {d s : Int} {x : List Int} (sq : Sq n rows) (hx : x.length = n) (hi : i < n) (hj : j < n) : ce (chgR rows d s x) i j = ce rows i j * d + s * x[i]! * x[j]! := by
  unfold chgR
  show (((List.range rows.length).map _)[i]!)[j]! = _
  rw [range_at' (by rw [sq.len]; exact hi), range_at' (by rw [hx]; exact hj)]
/-- the determinant of what is changed: by the worth of x in the inverse -/
theorem chg_det {n : Nat} (hn : n ≤ 3) {rows : List (List Int)} {d t over : Int} {x : List Int} (sq : Sq n rows) (hx : x.length = n) :
    detL (chgR rows d (over * t) x) * d * ((detL rows).natAbs : Int) = d ^ n * detL rows * (d * ((detL rows).natAbs : Int) + t * wrtF n (ce (dueR rows over)) (at0 x)) := by
  match n, hn with
  | 0, _ =>
    rw [sq0 sq]
    simp [chgR, detL, detF, sm, wrtF]
  | 1, _ =>
    obtain ⟨a, rfl⟩ := sq1 sq
    obtain ⟨x, rfl⟩ := len1 hx
    have e := sgd_mul (v := a)
    rw [due1]
    simp [chgR, det1, sm, List.range, List.range.loop, ce]
    generalize sgd a = z at *
    grind
  | 2, _ =>
    obtain ⟨a, b, c, e, rfl⟩ := sq2 sq
    obtain ⟨x, y, rfl⟩ := len2 hx
    have h := sgd_mul (v := detL [[a, b], [c, e]])
    have h2 := sgd_sq (v := detL [[a, b], [c, e]])
    rw [due2]
    generalize sgd (detL [[a, b], [c, e]]) = z at *
    generalize ((detL [[a, b], [c, e]]).natAbs : Int) = o at *
    subst h
    simp [chgR, sm, List.range, List.range.loop, ce, det2]
    grind
  | 3, _ =>
    obtain ⟨a, b, c, e, f, g, k, l, p, rfl⟩ := sq3 sq
    obtain ⟨x, y, u, rfl⟩ := len3 hx
    have h := sgd_mul (v := detL [[a, b, c], [e, f, g], [k, l, p]])
    have h2 := sgd_sq (v := detL [[a, b, c], [e, f, g], [k, l, p]])
    rw [due3]
    generalize sgd (detL [[a, b, c], [e, f, g], [k, l, p]]) = z at *
    generalize ((detL [[a, b, c], [e, f, g], [k, l, p]]).natAbs : Int) = o at *
    subst h
    simp [chgR, sm, List.range, List.range.loop, ce, det3]
    grind
end DL
set_option Elab.async false
set_option linter.all false
set_option maxRecDepth 100000
/-! MF: Euclid's turns, counted by Fibonacci's numbers. -/
namespace DL
def fibp : Nat → Nat × Nat
  | 0 => (0, 1)
  | n + 1 => ((fibp n).2, (fibp n).1 + (fibp n).2)
def fb (n : Nat) : Nat := (fibp n).1
theorem fb_two (n : Nat) : fb (n + 2) = fb n + fb (n + 1) := rfl
/-- k turns from (.., b): (u, v) -/
def EuF (b k u v : Nat) : Prop := (k = 0 ∧ v = b) ∨ (∃ j, k = j + 1 ∧ v < u ∧ fb (j + 1) * u + fb j * v ≤ b)
theorem EuF.step {b k u v : Nat} (h : EuF b k u v) (hv : 0 < v) : EuF b (k + 1) v (u % v) := by
  have hm := Nat.mod_lt u hv
  rcases h with ⟨rfl, rfl⟩ | ⟨j, rfl, lt, le⟩
  · refine .inr ⟨0, rfl, hm, ?_⟩
    show 1 * v + 0 * _ ≤ v
    omega
  · refine .inr ⟨j + 1, rfl, hm, ?_⟩
    have e := Nat.div_add_mod u v
    have q : 1 ≤ u / v := (Nat.one_le_div_iff hv).mpr (by omega)
    have q2 : v * 1 ≤ v * (u / v) := Nat.mul_le_mul_left _ q
    have q3 : v + u % v ≤ u := by omega
    have q4 : fb (j + 1) * (v + u % v) ≤ fb (j + 1) * u := Nat.mul_le_mul_left _ q3
    rw [show fb (j + 1 + 1) = fb j + fb (j + 1) from fb_two j]
    rw [Nat.mul_add] at q4
    rw [Nat.add_mul]
    omega
theorem fb_big : 2 ^ 1000 ≤ fb 1500 := by decide +kernel
theorem EuF.early {b u v : Nat} (h : EuF b 1500 u v) (hb : b < 2 ^ 1000) : False := by
  rcases h with ⟨h, _⟩ | ⟨j, e, lt, le⟩
  · exact absurd h (by decide)
  · obtain rfl : j = 1499 := by omega
    have h1 : fb 1500 * 1 ≤ fb 1500 * u := Nat.mul_le_mul_left _ (by omega)
    have h2 := fb_big
    have h3 : fb (1499 + 1) = fb 1500 := rfl
    rw [h3] at le
    omega
theorem fb_mono (n : Nat) : fb (n + 1) ≤ fb (n + 2) := by
  rw [fb_two n]
  omega
theorem fb_pow : ∀ L : Nat, 2 ^ L ≤ fb (2 * L + 2)
  | 0 => by decide
  | L + 1 => by
    have e : 2 * (L + 1) + 2 = (2 * L + 2) + 2 := by omega
    rw [e, fb_two]
    have h := fb_pow L
    have m := fb_mono (2 * L + 1)
    have m' : fb (2 * L + 2) ≤ fb (2 * L + 2 + 1) := m
    rw [Nat.pow_succ]
    omega
theorem EuF.earlyL {b L u v : Nat} (h : EuF b (2 * L + 2) u v) (hb : b < 2 ^ L) : False := by
  rcases h with ⟨h, _⟩ | ⟨j, e, lt, le⟩
  · omega
  · obtain rfl : j = 2 * L + 1 := by omega
    have h1 : fb (2 * L + 1 + 1) * 1 ≤ fb (2 * L + 1 + 1) * u := Nat.mul_le_mul_left _ (by omega)
    have h2 := fb_pow L
    have h3 : fb (2 * L + 1 + 1) = fb (2 * L + 2) := rfl
    omega
theorem bits_lt (i : Int) : i.natAbs < 2 ^ PySem.Builtin.Int.intBits i := by
  unfold PySem.Builtin.Int.intBits
  split
  · simp_all
  · exact Nat.lt_log2_self
end DL
set_option Elab.async false
set_option linter.all false
set_option maxRecDepth 100000
/-! DT: tables by a function of places; such tables while they are written. -/
namespace DL
open PySem PySem.Spec L2
open PyProof.Rows hiding St
def tabF (n : Nat) (f : Nat → Nat → Int) : List (List Int) := (List.range n).map fun i => (List.range n).map fun j => f i j
section
variable {n i j : Nat} {f g : Nat → Nat → Int} {rows : List (List Int)}
theorem tabF_sq : Sq n (tabF n f) := by
  refine ⟨by rw [tabF, List.length_map, List.length_range], fun r hr => ?_⟩
  obtain ⟨i, _, rfl⟩ := List.mem_map.mp hr
  rw [List.length_map, List.length_range]
theorem tabF_row (hi : i < n) : (tabF n f)[i]! = (List.range n).map fun j => f i j := range_at' hi
theorem tabF_ce (hi : i < n) (hj : j < n) : ce (tabF n f) i j = f i j := by
  unfold ce
  rw [tabF_row hi, range_at' hj]
theorem tabF_congr (h : ∀ i j, i < n → j < n → f i j = g i j) : tabF n f = tabF n g :=
  List.map_congr_left fun i hi => List.map_congr_left fun j hj => h i j (List.mem_range.mp hi) (List.mem_range.mp hj)
theorem map_range {α : Type} [Inhabited α] {l : List α} (h : l.length = n) : (List.range n).map (fun i => l[i]!) = l := by
  refine List.ext_getElem (by simp [h]) fun i h1 h2 => ?_
  simp [h2]
theorem tabF_of (sq : Sq n rows) : tabF n (ce rows) = rows := by
  have e : tabF n (ce rows) = (List.range n).map fun i => rows[i]! := List.map_congr_left fun i hi => map_range (sq.row (List.mem_range.mp hi))
  rw [e, map_range sq.len]
theorem szT_of {b : Nat} (sq : Sq n rows) (h : ∀ i j, i < n → j < n → Bd b (ce rows i j)) : SzT b rows := by
  intro r hr z hz
  obtain ⟨i, hi, e1⟩ := List.getElem_of_mem hr
  have hw := sq.wid r hr
  obtain ⟨j, hj, e2⟩ := List.getElem_of_mem hz
  have hi' : i < n := by rw [← sq.len]; exact hi
  have q := h i j hi' (by omega)
  unfold ce at q
  rw [getElem!_pos rows i hi, e1, getElem!_pos r j hj, e2] at q
  exact q
end
/-! ### while it is written -/
abbrev dRow (r : List Int) : List D := r.map D.int
def dR (rows : List (List Int)) : List (List D) := rows.map dRow
/-- a table at t, its rows at qs -/
structure TabP (pre : Mu) (t : Addr) (qs : List Addr) (n : Nat) (f : Nat → Nat → Int) (m0 m : Mu) : Prop where
  l : qs.length = n
  e : m = pre ++ matM t qs (dR (tabF n f)) m0
def set2 (f : Nat → Nat → Int) (i j : Nat) (v : Int) : Nat → Nat → Int := fun a b => if a = i ∧ b = j then v else f a b
theorem set_map {α β : Type} {l : List α} {f : α → β} {i : Nat} {v : α} : (l.set i v).map f = (l.map f).set i (f v) := by rw [List.map_set]
theorem tabF_set {n i j : Nat} {f : Nat → Nat → Int} {v : Int} (hi : i < n) (hj : j < n) : (tabF n f).set i (((tabF n f)[i]!).set j v) = tabF n (set2 f i j v) := by
  rw [tabF_row hi]
  refine List.ext_getElem (by simp [tabF]) fun a h1 h2 => ?_
  have ha : a < n := by simpa [tabF] using h2
  rw [List.getElem_set]
  by_cases e : i = a
  · subst e
    rw [if_pos rfl]
    simp only [tabF, List.getElem_map, List.getElem_range]
    refine List.ext_getElem (by simp) fun b h3 h4 => ?_
    rw [List.getElem_set]
    by_cases e2 : j = b
    · subst e2
      simp [set2]
    · rw [if_neg e2]
      have : ¬ b = j := fun z => e2 z.symm
      simp [set2, this]
  · rw [if_neg e]
    have : ¬ a = i := fun z => e z.symm
    simp [tabF, set2, this]
section
variable {W : WX} {E : ET} {r : Rho} {m m0 pre : Mu} {K : KT} {G : Gx} {t : Addr} {qs : List Addr} {n i j : Nat} {f : Nat → Nat → Int} {v : Int}
theorem dR_get (hi : i < n) : (dR (tabF n f))[i]? = some (dRow ((List.range n).map fun j => f i j)) := by
  simp [dR, tabF, hi]
theorem qs_get {qs : List Addr} (hi : i < qs.length) : qs[i]? = some qs[i]! := by
  rw [getElem!_pos qs i hi, List.getElem?_eq_getElem hi]
theorem w2_ixP (h : TabP pre t qs n f m0 m) (hi : i < n) (k : K (.ref qs[i]!) m) : W2 W E (oIx G) (.ref t) (.int (i : Nat)) r m K := by
  have e := h.e
  have l := h.l
  refine w2_ixM (d := .ref qs[i]!) (ds := qs.map .ref) (by rw [e]; exact At.appR at_matP) ⟨?_, k⟩
  refine atI_get ?_
  rw [List.getElem?_map, qs_get (by omega)]
  rfl
theorem w2_ixQ (h : TabP pre t qs n f m0 m) (hi : i < n) (hj : j < n) (k : K (.int (f i j)) m) : W2 W E (oIx G) (.ref qs[i]!) (.int (j : Nat)) r m K := by
  have e := h.e
  have l := h.l
  refine w2_ixM (d := .int (f i j)) (ds := dRow ((List.range n).map fun j => f i j)) (by rw [e]; exact At.appR (at_matR (qs_get (by omega)) (dR_get hi))) ⟨?_, k⟩
  refine atI_get ?_
  simp [dRow, hj]
theorem set_tab {N : Mu → Prop} (h : TabP pre t qs n f m0 m) (hi : i < n) (hj : j < n) (k : ∀ m3, TabP pre t qs n (set2 f i j v) m0 m3 → N m3) :
    ∃ p xs k' j' m3, D.ref qs[i]! = .ref p ∧ D.int (j : Nat) = .int k' ∧ At m p (.lst xs) ∧ ixN xs.length k' = some j' ∧ Put m p (.lst (xs.set j' (.int v))) m3 ∧ N m3 := by
  have e := h.e
  have l := h.l
  have key : (dR (tabF n f)).set i ((dRow ((List.range n).map fun j => f i j)).set j (.int v)) = dR (tabF n (set2 f i j v)) := by
    rw [← tabF_set hi hj, tabF_row hi]
    unfold dR
    rw [List.map_set]
    simp only [dRow, List.map_set]
  refine ⟨qs[i]!, dRow ((List.range n).map fun j => f i j), (j : Nat), j, pre ++ matM t qs (dR (tabF n (set2 f i j v))) m0, rfl, rfl, by rw [e]; exact At.appR (at_matR (qs_get (by omega)) (dR_get hi)), ?_, ?_, k _ ⟨l, rfl⟩⟩
  · unfold ixN
    rw [if_pos (by omega), if_pos (by simp; exact hj)]
    rfl
  · rw [e, ← key]
    exact Put.appR (put_matR (qs_get (by omega)) (by simp [dR, tabF, hi]))
theorem frz_tab (h : TabP pre t qs n f m0 m) : Frz m (.ref t) (lli (tabF n f)) := by
  have e := h.e
  have hl : qs.length = (dR (tabF n f)).length := by rw [h.l]; simp [dR, tabF]
  have : lli (tabF n f) = .lst ((dR (tabF n f)).map .lst) := by
    unfold dR
    rw [List.map_map]
    rfl
  rw [this]
  refine frz_in hl fun q hq => ?_
  rw [e]
  refine At.of_mem (List.mem_append_right _ ?_)
  rw [matM_eq]
  exact List.mem_append_left _ hq
/-- the pot on a table -/
theorem pot_tab {p : Addr} (l : qs.length = n) (h : PotM p (matM t qs (dR (tabF n f)) m0) m) : ∃ pre, TabP pre t qs n f m0 m ∧ ∀ f' m', TabP pre t qs n f' m0 m' → PotM p (matM t qs (dR (tabF n f')) m0) m' := by
  obtain ⟨cs, i, r, e, a, b, c⟩ := h
  exact ⟨[(p, _)], ⟨l, e⟩, fun f' m' h' => ⟨cs, i, r, h'.e, a, b, c⟩⟩
/-- a table made, the pot beneath it -/
theorem pot_over {p : Addr} {q : List (List D)} (h : PotM p m0 m) : ∃ m', (matM t qs q m).Perm m' ∧ PotM p (matM t qs q m0) m' := by
  obtain ⟨cs, i, r, e, a, b, c⟩ := h
  subst e
  exact ⟨_, perm_mat, cs, i, r, rfl, a, b, c⟩
theorem pot_under {p : Addr} {q : List (List D)} (h : PotM p (matM t qs q m0) m) : ∃ m', m.Perm (matO t qs q ++ m') ∧ PotM p m0 m' := by
  obtain ⟨cs, i, r, e, a, b, c⟩ := h
  subst e
  refine ⟨_, ?_, cs, i, r, rfl, a, b, c⟩
  rw [← matM_eq]
  exact perm_mat.symm
end
/-! ### ranges -/
def RngB (j : Int) : Prop := -(2 ^ 62) ≤ j ∧ j < 2 ^ 62
theorem rngB {j : Int} (h : j.natAbs ≤ 1000000) : RngB j := ⟨by omega, by omega⟩
structure RngA (j : Int) (K : Prop) : Prop where
  b : RngB j
  k : K
section
variable {W : WX} {E : ET} {r : Rho} {m : Mu} {KI : List D → List Addr → Mu → Prop} {ta : TA}
theorem ran_zero {n : Nat} : ran 0 n = (List.range n).map fun i : Nat => D.int (i : Int) := by
  unfold ran
  congr 1
  funext i
  rw [Int.zero_add]
theorem wi_rng1S (h : Wa W E ta r m fun ds m1 => ∃ j : Int, ds = [.int j] ∧ RngA j (KI ((List.range j.toNat).map fun i : Nat => D.int (i : Int)) [] m1)) : Wi W E (iRng1 ta) r m KI :=
  wi_rng1 (h.imp fun ds m1 ⟨j, e, b, k⟩ => ⟨j, e, b, by rw [ran_zero]; exact k⟩)
end
/-- [[0 for j in range(n)] for i in range(n)] -/
theorem we_zeroTab {W : WX} {E : ET} {r : Rho} {m : Mu} {K : KT} {s i j n : Nat} {vs vs' : List Nat} (hv : vs = [i]) (hv' : vs' = [j]) (hs : r[s]? = some (some (.int (n : Nat)))) (hi : i ≠ s) (hj : j ≠ s) (hn : n ≤ 1000)
    (k : ∀ t qs, qs.length = n → K (.ref t) (matM t qs (dR (tabF n fun _ _ => 0)) m)) :
    We W E (tLc (iRng1 (tCons (tVar s) tNil)) (gName i) tYes (tLc (iRng1 (tCons (tVar s) tNil)) (gName j) tYes (tC (.int 0)) vs') vs) r m K := by
  subst hv hv'
  have z : dRow ((List.range n).map fun _ => (0 : Int)) = (List.range n).map fun _ => D.int 0 := by
    unfold dRow
    rw [List.map_map]
    rfl
  have bl : Nat.ble (List.range n).length 100000 = true := Nat.ble_eq_true_of_le (by rw [List.length_range]; omega)
  refine we_lcMat (α := Nat) (fun i => .int (i : Int)) (fun _ => dRow ((List.range n).map fun _ => (0 : Int))) (gk_name (by simp)) (wi_rng1S (wa_cons (we_var hs (wa_nil ⟨_, rfl, ⟨rngB (by omega), ?_⟩⟩))))
  refine ⟨List.range n, rfl, bl, fun a _ own => wg_name ?_, fun t qs hq => ?_⟩
  · have hs2 : ((wipeR r [i]).set i (some (.int (a : Int))))[s]? = some (some (.int (n : Nat))) := by
      rw [List.getElem?_set_ne hi]
      show (r.set i none)[s]? = _
      rw [List.getElem?_set_ne hi, hs]
    refine we_lcM (α := Nat) (fun i => .int (i : Int)) (fun _ => D.int 0) (gk_name (by simp)) (wi_rng1S (wa_cons (we_var hs2 (wa_nil ⟨_, rfl, ⟨rngB (by omega), ?_⟩⟩))))
    refine ⟨List.range n, rfl, bl, fun b _ q => wg_name (we_cint ⟨rfl, rfl⟩), fun Dd _ => ⟨Dd, rfl, ?_⟩⟩
    rw [z]
  · have q := k t qs (by rw [hq, List.length_range])
    have e : dR (tabF n fun _ _ => 0) = (List.range n).map fun _ => dRow ((List.range n).map fun _ => (0 : Int)) := by
      unfold dR tabF
      rw [List.map_map]
      rfl
    rw [e] at q
    exact q
/-! ### determinants by a number more on the diagonal -/
def diaF (f : Nat → Nat → Int) (c : Int) : Nat → Nat → Int := fun a b => f a b + if a = b then c else 0
theorem tab1 {f : Nat → Nat → Int} : tabF 1 f = [[f 0 0]] := by simp [tabF]
theorem tab2 {f : Nat → Nat → Int} : tabF 2 f = [[f 0 0, f 0 1], [f 1 0, f 1 1]] := by simp [tabF, List.range, List.range.loop]
theorem tab3 {f : Nat → Nat → Int} : tabF 3 f = [[f 0 0, f 0 1, f 0 2], [f 1 0, f 1 1, f 1 2], [f 2 0, f 2 1, f 2 2]] := by simp [tabF, List.range, List.range.loop]
theorem dia_det {n : Nat} (hn : n ≤ 3) {f : Nat → Nat → Int} (h : ∀ c : Nat, c < n → detL (tabF n (diaF f c)) = 0) : detL (tabF n (diaF f n)) ≠ 0 := by
  match n, hn with
  | 0, _ => show (1 : Int) ≠ 0; decide
  | 1, _ =>
    have h0 := h 0 (by decide)
    rw [tab1, det1] at *
    simp [diaF] at *
    omega
  | 2, _ =>
    have h0 := h 0 (by decide)
    have h1 := h 1 (by decide)
    rw [tab2, det2] at *
    simp [diaF] at *
    intro z
    grind
  | 3, _ =>
    have h0 := h 0 (by decide)
    have h1 := h 1 (by decide)
    have h2 := h 2 (by decide)
    rw [tab3, det3] at *
    simp [diaF] at *
    intro z
    have key : (f 0 0 + 3) * ((f 1 1 + 3) * (f 2 2 + 3) - f 1 2 * f 2 1) - f 0 1 * (f 1 0 * (f 2 2 + 3) - f 1 2 * f 2 0) + f 0 2 * (f 1 0 * f 2 1 - (f 1 1 + 3) * f 2 0)
        - 3 * ((f 0 0 + 2) * ((f 1 1 + 2) * (f 2 2 + 2) - f 1 2 * f 2 1) - f 0 1 * (f 1 0 * (f 2 2 + 2) - f 1 2 * f 2 0) + f 0 2 * (f 1 0 * f 2 1 - (f 1 1 + 2) * f 2 0))
        + 3 * ((f 0 0 + 1) * ((f 1 1 + 1) * (f 2 2 + 1) - f 1 2 * f 2 1) - f 0 1 * (f 1 0 * (f 2 2 + 1) - f 1 2 * f 2 0) + f 0 2 * (f 1 0 * f 2 1 - (f 1 1 + 1) * f 2 0))
        - (f 0 0 * (f 1 1 * f 2 2 - f 1 2 * f 2 1) - f 0 1 * (f 1 0 * f 2 2 - f 1 2 * f 2 0) + f 0 2 * (f 1 0 * f 2 1 - f 1 1 * f 2 0)) = 6 := by grind
    rw [z, h0, h1, h2] at key
    exact absurd key (by decide)
/-! ### sizes of small ones -/
theorem det_bd3 {n b : Nat} (hn : n ≤ 3) {rows : List (List Int)} (sq : Sq n rows) (s : SzT b rows) : Bd (3 * b + 3) (detL rows) := by
  match n, hn with
  | 0, _ =>
    rw [sq0 sq]
    exact (show Bd 1 (detL []) from bd_lit (by decide)).mono (by omega)
  | 1, _ =>
    obtain ⟨a, rfl⟩ := sq1 sq
    rw [det1]
    exact (s [a] (by simp) a (by simp)).mono (by omega)
  | 2, _ =>
    obtain ⟨a, b, c, d, rfl⟩ := sq2 sq
    rw [det2]
    have S : ∀ z ∈ [a, b, c, d], Bd _ z := fun z hz => by
      simp only [List.mem_cons, List.not_mem_nil, or_false] at hz
      rcases hz with rfl | rfl | rfl | rfl
      · exact s _ (.head _) _ (by simp)
      · exact s _ (.head _) _ (by simp)
      · exact s _ (.tail _ (.head _)) _ (by simp)
      · exact s _ (.tail _ (.head _)) _ (by simp)
    exact (((S a (by simp)).mul (S d (by simp))).sub ((S b (by simp)).mul (S c (by simp)))).mono (by omega)
  | 3, _ =>
    obtain ⟨a, b, c, d, e, f, g, k, l, rfl⟩ := sq3 sq
    rw [det3]
    have S : ∀ r ∈ [[a, b, c], [d, e, f], [g, k, l]], ∀ z ∈ r, Bd _ z := s
    have sa := S _ (.head _) a (by simp)
    have sb := S _ (.head _) b (by simp)
    have sc := S _ (.head _) c (by simp)
    have sd := S _ (.tail _ (.head _)) d (by simp)
    have se := S _ (.tail _ (.head _)) e (by simp)
    have sf := S _ (.tail _ (.head _)) f (by simp)
    have sg := S _ (.tail _ (.tail _ (.head _))) g (by simp)
    have sk := S _ (.tail _ (.tail _ (.head _))) k (by simp)
    have sl := S _ (.tail _ (.tail _ (.head _))) l (by simp)
    exact ((((sa.mul ((se.mul sl).sub (sf.mul sk)))).sub (sb.mul ((sd.mul sl).sub (sf.mul sg)))).add ((sc.mul ((sd.mul sk).sub (se.mul sg))).mono (by omega))).mono (by omega)
end DL
set_option Elab.async false
set_option linter.all false
set_option maxRecDepth 100000
/-! DN: lists of drawn numbers. -/
namespace DL
open PySem PySem.Spec L2
open PyProof.Rows hiding St
section
variable {W : WX} {E : ET} {r : Rho} {m m0 m2 : Mu} {K : KT} {te : TE} {p : Addr} {s iv n : Nat} {vs : List Nat}
theorem We.perm (p : m.Perm m2) (h : We W E te r m2 K) : We W E te r m K := fun s H Q e z g => by
  obtain ⟨mu, hd⟩ := e.mu.perm p
  have e2 : EnvR r m2 s H := ⟨by rw [hd]; exact e.env, mu⟩
  have z2 : Rz W E m2 H := fun x r' m' cls dd s' H' a => z x r' m' cls dd s' H' (by rw [← hd]; exact a)
  exact h s H Q e2 z2 fun d m' v H' a => g d m' v H' (by rw [← hd]; exact a)
/-- [.. for i in range(n)], each item drawn from the pot -/
theorem we_lcDraw (P : Nat → Int → Prop) (hv : vs = [iv]) (hm : PotM p m0 m) (hs : r[s]? = some (some (.int (n : Nat)))) (hn : n ≤ 1000)
    (hel : ∀ i, i < n → ∀ m1 m', PotM p m1 m' → We wNo eNo te ((r.set iv none).set iv (some (.int (i : Nat)))) m' fun y m4 => ∃ v, y = .int v ∧ P i v ∧ PotM p m1 m4)
    (k : ∀ (xs : List Int) m', xs.length = n → (∀ i, i < n → P i xs[i]!) → PotM p m0 m' → K (.lst (xs.map D.int)) m') :
    We W E (tLc (iRng1 (tCons (tVar s) tNil)) (gName iv) tYes te vs) r m K := by
  subst hv
  refine we_frz (we_perm (we_lcI (gk_name (by simp)) (wi_rng1S (wa_cons (we_var hs (wa_nil ⟨_, rfl, ⟨rngB (by omega), fun Dd hD => ?_⟩⟩))))))
  refine ⟨fun i m' => ∃ (xs : List Int) (m'' : Mu), xs.length = i ∧ (∀ j, j < i → P j xs[j]!) ∧ m'.Perm m'' ∧ PotM p ((Dd, .lst (xs.map D.int)) :: m0) m'', ?_, fun _ _ _ => Sub.nil, ?_, ?_⟩
  · obtain ⟨cs, a, b, e, h1, h2, h3⟩ := hm
    subst e
    exact ⟨[], _, rfl, fun _ h => absurd h (Nat.not_lt_zero _), List.Perm.swap _ _ _, cs, a, b, rfl, h1, h2, h3⟩
  · rintro i x m' hx ⟨xs, m'', hl, hp, pm, hq⟩
    obtain ⟨a, ha, rfl⟩ := get_map hx
    obtain ⟨hlt, rfl⟩ := List.getElem?_eq_some_iff.mp ha
    have hi : i < n := by simpa using hlt
    rw [List.getElem_range]
    refine wg_name (wt_yes ⟨fun _ => ?_, fun z => nomatch z⟩)
    refine We.perm pm ((hel i hi _ _ hq).imp fun y m4 ⟨v, e, hv, hq4⟩ => ?_)
    subst e
    obtain ⟨cs, a, b, e, h1, h2, h3⟩ := hq4
    subst e
    refine ⟨xs.map D.int, _, .tail .head, by rw [List.length_map]; omega, .tail .head, xs ++ [v], _, by rw [List.length_append, hl]; rfl, fun j hj => ?_, List.Perm.refl _, cs, a, b, by rw [List.map_append]; rfl, h1, h2, h3⟩
    by_cases e : j < i
    · have q := hp j e
      rw [getElem!_pos xs j (by omega)] at q
      rw [getElem!_pos (xs ++ [v]) j (by rw [List.length_append]; omega), List.getElem_append_left (by omega)]
      exact q
    · obtain rfl : j = i := by omega
      rw [getElem!_pos (xs ++ [v]) j (by rw [List.length_append, hl]; exact Nat.lt_succ_self _), List.getElem_append_right (by omega)]
      simpa [hl] using hv
  · rintro m' ⟨xs, m'', hl, hp, pm, cs, a, b, e, h1, h2, h3⟩
    subst e
    simp only [List.length_map, List.length_range, Int.toNat_natCast] at hl hp
    exact ⟨_, pm.trans (List.Perm.swap _ _ _), Dd, xs.map D.int, _, rfl, rfl, k xs _ hl hp ⟨cs, a, b, rfl, h1, h2, h3⟩⟩
end
end DL
set_option Elab.async false
set_option linter.all false
set_option maxRecDepth 100000
/-! MB: determinants of vectors; what elimination without fractions computes. -/
namespace DL
open PySem PySem.Spec L2
open PyProof.Rows hiding St
/-! ### determinants of n vectors (c j i: vector j, place i) -/
def skp (j l : Nat) : Nat := if l < j then l else l + 1
def sbv (c : Nat → Nat → Int) (j : Nat) : Nat → Nat → Int := fun l i => c (skp j l) (i + 1)
def dtF : Nat → (Nat → Nat → Int) → Int
  | 0, _ => 1
  | n + 1, c => sm (n + 1) fun j => sg j * c j 0 * dtF n (sbv c j)
def upv (c : Nat → Nat → Int) (l : Nat) (u : Nat → Int) : Nat → Nat → Int := fun j i => if j = l then u i else c j i
theorem dtF_succ {n : Nat} {c : Nat → Nat → Int} : dtF (n + 1) c = sm (n + 1) fun j => sg j * c j 0 * dtF n (sbv c j) := rfl
theorem skp_ne {j l : Nat} : skp j l ≠ j := by
  unfold skp
  split <;> omega
theorem skp_lt {j l n : Nat} (h : l < n) : skp j l < n + 1 := by
  unfold skp
  split <;> omega
theorem dtF_congr : ∀ {n : Nat} {c c' : Nat → Nat → Int}, (∀ j i, j < n → i < n → c j i = c' j i) → dtF n c = dtF n c'
  | 0, _, _, _ => rfl
  | n + 1, c, c', h => by
    rw [dtF_succ, dtF_succ]
    refine sm_congr fun j hj => ?_
    rw [h j 0 hj (by omega), dtF_congr (n := n) (c := sbv c j) (c' := sbv c' j) fun l i hl hi => h _ _ (skp_lt hl) (by omega)]
theorem upv_self {c : Nat → Nat → Int} {l : Nat} : upv c l (c l) = c := by
  funext j i
  unfold upv
  split
  · rename_i e; rw [e]
  · rfl
theorem sbv_upv_self {c : Nat → Nat → Int} {l : Nat} {u : Nat → Int} : sbv (upv c l u) l = sbv c l := by
  funext j i
  unfold sbv upv
  rw [if_neg skp_ne]
/-- the place that skip leads to l -/
def usk (j l : Nat) : Nat := if l < j then l else l - 1
theorem skp_usk {j l : Nat} (h : l ≠ j) : skp j (usk j l) = l := by
  unfold skp usk
  by_cases h1 : l < j
  · rw [if_pos h1, if_pos h1]
  · rw [if_neg h1, if_neg (by omega)]
    omega
theorem skp_inj {j a l : Nat} (h : l ≠ j) : skp j a = l ↔ a = usk j l := by
  unfold skp usk
  split <;> split <;> omega
theorem usk_lt {j l n : Nat} (h : l ≠ j) (hl : l < n + 1) (hj : j < n + 1) : usk j l < n := by
  unfold usk
  split <;> omega
theorem sbv_upv {c : Nat → Nat → Int} {l j : Nat} {u : Nat → Int} (h : l ≠ j) : sbv (upv c l u) j = upv (sbv c j) (usk j l) fun i => u (i + 1) := by
  funext a i
  unfold sbv upv
  by_cases e : a = usk j l
  · rw [if_pos ((skp_inj h).mpr e), if_pos e]
  · rw [if_neg (fun z => e ((skp_inj h).mp z)), if_neg e]
/-- linear in each vector -/
theorem dtF_lin {a b : Int} {u w : Nat → Int} : ∀ {n : Nat} {c : Nat → Nat → Int} {l : Nat}, l < n → dtF n (upv c l fun i => a * u i + b * w i) = a * dtF n (upv c l u) + b * dtF n (upv c l w)
  | 0, _, _, h => absurd h (Nat.not_lt_zero _)
  | n + 1, c, l, h => by
    rw [dtF_succ, dtF_succ, dtF_succ, ← sm_mul, ← sm_mul, ← sm_add]
    refine sm_congr fun j hj => ?_
    by_cases e : l = j
    · subst e
      rw [sbv_upv_self, sbv_upv_self, sbv_upv_self]
      simp only [upv, if_pos]
      grind
    · have e' : ¬ j = l := fun z => e z.symm
      rw [sbv_upv e, sbv_upv e, sbv_upv e, dtF_lin (n := n) (usk_lt e h hj)]
      simp only [upv, if_neg e']
      grind
theorem dtF_add {n l : Nat} {c : Nat → Nat → Int} {u w : Nat → Int} (h : l < n) : dtF n (upv c l fun i => u i + w i) = dtF n (upv c l u) + dtF n (upv c l w) := by
  have q := dtF_lin (a := 1) (b := 1) (u := u) (w := w) (c := c) h
  simp only [Int.one_mul] at q
  exact q
theorem dtF_smul {n l : Nat} {c : Nat → Nat → Int} {u : Nat → Int} {a : Int} (h : l < n) : dtF n (upv c l fun i => a * u i) = a * dtF n (upv c l u) := by
  have q := dtF_lin (a := a) (b := 0) (u := u) (w := u) (c := c) h
  simp only [Int.zero_mul, Int.add_zero] at q
  exact q
theorem dtF_zero {n l : Nat} {c : Nat → Nat → Int} (h : l < n) : dtF n (upv c l fun _ => 0) = 0 := by
  have q := dtF_smul (a := 0) (u := fun _ => 0) (c := c) h
  simp only [Int.zero_mul] at q
  exact q
theorem sm_two {f : Nat → Int} {l : Nat} : ∀ {n : Nat}, l + 1 < n → (∀ j, j < n → j ≠ l → j ≠ l + 1 → f j = 0) → sm n f = f l + f (l + 1)
  | 0, h, _ => absurd h (Nat.not_lt_zero _)
  | n + 1, h, z => by
    rw [sm_succ]
    by_cases e : l + 1 = n
    · subst e
      have q : sm l f = 0 := by
        have q1 : sm l f = sm l fun _ => 0 * 0 := sm_congr fun j hj => z j (by omega) (by omega) (by omega)
        rw [q1, sm_mul, Int.zero_mul]
      rw [sm_succ, q]
      omega
    · rw [sm_two (n := n) (by omega) fun j hj h1 h2 => z j (by omega) h1 h2, z n (by omega) (by omega) (by omega), Int.add_zero]
theorem dtF_adj : ∀ {n : Nat} {c : Nat → Nat → Int} {l : Nat}, l + 1 < n → (∀ i, c l i = c (l + 1) i) → dtF n c = 0
  | 0, _, _, h, _ => absurd h (Nat.not_lt_zero _)
  | n + 1, c, l, h, e => by
    rw [dtF_succ, sm_two h fun j hj h1 h2 => ?_]
    · have es : sbv c l = sbv c (l + 1) := by
        funext a i
        unfold sbv
        by_cases q : a = l
        · subst q
          rw [show skp a a = a + 1 by unfold skp; rw [if_neg (by omega)], show skp (a + 1) a = a by unfold skp; rw [if_pos (by omega)], e]
        · have : skp l a = skp (l + 1) a := by
            unfold skp
            split <;> split <;> omega
          rw [this]
      rw [es, sg_succ, e 0]
      grind
    · have q : dtF n (sbv c j) = 0 := by
        by_cases hlt : j < l
        · refine dtF_adj (n := n) (l := l - 1) (by omega) fun i => ?_
          unfold sbv
          rw [show skp j (l - 1) = l by unfold skp; rw [if_neg (by omega)]; omega, show skp j (l - 1 + 1) = l + 1 by unfold skp; rw [if_neg (by omega)]; omega, e]
        · refine dtF_adj (n := n) (l := l) (by omega) fun i => ?_
          unfold sbv
          rw [show skp j l = l by unfold skp; rw [if_pos (by omega)], show skp j (l + 1) = l + 1 by unfold skp; rw [if_pos (by omega)], e]
      rw [q, Int.mul_zero]
theorem upv_upv {c : Nat → Nat → Int} {l : Nat} {u w : Nat → Int} : upv (upv c l u) l w = upv c l w := by
  funext j i
  unfold upv
  split <;> rfl
theorem upv_comm {c : Nat → Nat → Int} {l k : Nat} {u w : Nat → Int} (h : l ≠ k) : upv (upv c l u) k w = upv (upv c k w) l u := by
  funext j i
  unfold upv
  by_cases h1 : j = k
  · subst h1
    rw [if_pos rfl, if_neg (fun z => h z.symm), if_pos rfl]
  · rw [if_neg h1, if_neg h1]
/-- two neighbours exchanged -/
theorem dtF_swap {n l : Nat} {c : Nat → Nat → Int} {u w : Nat → Int} (h : l + 1 < n) : dtF n (upv (upv c l u) (l + 1) w) = -dtF n (upv (upv c l w) (l + 1) u) := by
  have ne : l ≠ l + 1 := by omega
  have key : dtF n (upv (upv c l fun i => u i + w i) (l + 1) fun i => u i + w i) = 0 := dtF_adj h fun i => by
    unfold upv
    rw [if_neg ne, if_pos rfl, if_pos rfl]
  have same : ∀ x : Nat → Int, dtF n (upv (upv c l x) (l + 1) x) = 0 := fun x => dtF_adj h fun i => by
    unfold upv
    rw [if_neg ne, if_pos rfl, if_pos rfl]
  rw [dtF_add h, upv_comm ne, dtF_add (by omega), upv_comm ne, dtF_add (by omega), upv_comm (Ne.symm ne), upv_comm (Ne.symm ne), upv_comm (Ne.symm ne), upv_comm (Ne.symm ne), same, same] at key
  omega
theorem dtF_eq : ∀ {k n : Nat} {c : Nat → Nat → Int} {l : Nat}, l + 1 + k < n → (∀ i, c l i = c (l + 1 + k) i) → dtF n c = 0
  | 0, _, _, _, h, e => dtF_adj h e
  | k + 1, n, c, l, h, e => by
    have e1 : c = upv (upv c (l + 1 + k) (c (l + 1 + k))) (l + 1 + k + 1) (c (l + 1 + k + 1)) := by rw [upv_self, upv_self]
    have e2 := dtF_swap (n := n) (l := l + 1 + k) (c := c) (u := c (l + 1 + k)) (w := c (l + 1 + k + 1)) (by omega)
    rw [← e1] at e2
    rw [e2, dtF_eq (k := k) (l := l) (by omega) fun i => ?_]
    · rfl
    · unfold upv
      rw [if_neg (by omega), if_neg (by omega), if_neg (by omega), if_pos rfl]
      exact e i
/-- two that are alike -/
theorem dtF_alike {n l k : Nat} {c : Nat → Nat → Int} (hl : l < n) (hk : k < n) (ne : l ≠ k) (e : ∀ i, c l i = c k i) : dtF n c = 0 := by
  rcases Nat.lt_or_gt_of_ne ne with h | h
  · obtain ⟨d, rfl⟩ : ∃ d, k = l + 1 + d := ⟨k - l - 1, by omega⟩
    exact dtF_eq hk e
  · obtain ⟨d, rfl⟩ : ∃ d, l = k + 1 + d := ⟨l - k - 1, by omega⟩
    exact dtF_eq hl fun i => (e i).symm
theorem dtF_sum {n l : Nat} {c : Nat → Nat → Int} (h : l < n) {f : Nat → Nat → Int} {u : Nat → Int} : ∀ {k : Nat}, dtF n (upv c l fun i => sm k fun j => u j * f j i) = sm k fun j => u j * dtF n (upv c l (f j))
  | 0 => dtF_zero h
  | k + 1 => by
    have e : (fun i => sm (k + 1) fun j => u j * f j i) = fun i => (fun i => sm k fun j => u j * f j i) i + (fun i => u k * f k i) i := by
      funext i
      exact sm_succ
    rw [e, dtF_add h, dtF_sum h, dtF_smul h, sm_succ]
/-- a sum of one's own vectors -/
theorem dtF_cram {n l : Nat} {c : Nat → Nat → Int} {a : Int} {v u : Nat → Int} (h : l < n) (e : ∀ i, i < n → a * v i = sm n fun j => u j * c j i) : a * dtF n (upv c l v) = u l * dtF n c := by
  rw [← dtF_smul h]
  have e1 : dtF n (upv c l fun i => a * v i) = dtF n (upv c l fun i => sm n fun j => u j * c j i) := dtF_congr fun j i hj hi => by
    unfold upv
    split
    · exact e i hi
    · rfl
  rw [e1, dtF_sum h]
  have e2 : (sm n fun j => u j * dtF n (upv c l (c j))) = sm n fun j => dlt l j * (u j * dtF n (upv c l (c j))) := sm_congr fun j hj => by
    unfold dlt
    by_cases q : l = j
    · rw [if_pos q, Int.one_mul]
    · rw [if_neg q, Int.zero_mul, dtF_alike (l := l) (k := j) h hj q fun i => ?_, Int.mul_zero]
      unfold upv
      rw [if_pos rfl, if_neg (fun z => q z.symm)]
  rw [e2, sm_dlt, if_pos h, upv_self]
/-- the last vector is nothing but its last place -/
theorem dtF_last : ∀ {n : Nat} {c : Nat → Nat → Int}, (∀ i, i < n → c n i = 0) → dtF (n + 1) c = c n n * dtF n c
  | 0, c, _ => by
    rw [dtF_succ, sm_succ]
    simp [sm, sg, dtF]
  | n + 1, c, h => by
    rw [dtF_succ, sm_succ, h 0 (by omega), Int.mul_zero, Int.zero_mul, Int.add_zero, dtF_succ, ← sm_mul]
    refine sm_congr fun j hj => ?_
    have sl : skp j n = n + 1 := by
      unfold skp
      rw [if_neg (by omega)]
    rw [dtF_last (n := n) (c := sbv c j) fun i hi => by
      show c (skp j n) (i + 1) = 0
      rw [sl]
      exact h _ (by omega)]
    have e : sbv c j n n = c (n + 1) (n + 1) := by
      show c (skp j n) (n + 1) = _
      rw [sl]
    rw [e]
    ac_rfl
/-! ### a table with k pivots -/
/-- rows A (as they stand by now), the table T, the scale s, the pivots' columns P: each column of A is told by the pivots' columns -/
structure Piv (h : Nat) (A T : Nat → Nat → Int) (s : Int) (P : Nat → Nat) (k w : Nat) : Prop where
  kh : k ≤ h
  s0 : s ≠ 0
  sd : s = dtF k fun j i => A i (P j)
  rel : ∀ i q, i < h → q < w → s * A i q = (sm k fun j => T j q * A i (P j)) + if k ≤ i then T i q else 0
theorem Piv.zero {h w : Nat} {A : Nat → Nat → Int} {P : Nat → Nat} : Piv h A A 1 P 0 w :=
  ⟨Nat.zero_le _, by decide, rfl, fun i q _ _ => by rw [sm_zero, if_pos (Nat.zero_le _), Int.zero_add, Int.one_mul]⟩
theorem sm_cong2 {n : Nat} {f g : Nat → Int} (h : ∀ i, i < n → f i = g i) : sm n f = sm n g := sm_congr h
/-- two rows below the pivots exchanged -/
def swp (a b i : Nat) : Nat := if i = a then b else if i = b then a else i
theorem swp_lt {a b k i : Nat} (ha : k ≤ a) (hb : k ≤ b) (hi : i < k) : swp a b i = i := by
  unfold swp
  rw [if_neg (by omega), if_neg (by omega)]
theorem swp_ge {a b k i : Nat} (ha : k ≤ a) (hb : k ≤ b) : k ≤ swp a b i ↔ k ≤ i := by
  unfold swp
  split
  · omega
  · split <;> omega
theorem swp_h {a b h i : Nat} (ha : a < h) (hb : b < h) (hi : i < h) : swp a b i < h := by
  unfold swp
  split
  · omega
  · split <;> omega
theorem Piv.swap {h k w a b : Nat} {A T : Nat → Nat → Int} {s : Int} {P : Nat → Nat} (H : Piv h A T s P k w) (ha : k ≤ a) (hb : k ≤ b) (ha' : a < h) (hb' : b < h) : Piv h (fun i q => A (swp a b i) q) (fun i q => T (swp a b i) q) s P k w := by
  refine ⟨H.kh, H.s0, ?_, fun i q hi hq => ?_⟩
  · rw [H.sd]
    exact dtF_congr fun j i hj hi => by rw [swp_lt ha hb hi]
  · have r := H.rel (swp a b i) q (swp_h ha' hb' hi) hq
    rw [r]
    have e1 : (if k ≤ swp a b i then T (swp a b i) q else 0) = if k ≤ i then T (swp a b i) q else 0 := by
      by_cases z : k ≤ i
      · rw [if_pos z, if_pos ((swp_ge ha hb).mpr z)]
      · rw [if_neg z, if_neg (fun y => z ((swp_ge ha hb).mp y))]
    rw [e1]
    congr 1
    exact sm_congr fun j hj => by rw [swp_lt ha hb hj]
/-- the cleared table: row k is the head, its number in column c the new scale -/
def clr (T : Nat → Nat → Int) (s : Int) (k c : Nat) : Nat → Nat → Int := fun i q => if i = k then T k q else (T k c * T i q - T i c * T k q).fdiv s
theorem fdiv_of {a s x : Int} (h : s ≠ 0) (e : a = s * x) : a.fdiv s = x := by
  rw [e]
  exact Int.mul_fdiv_cancel_left x h
theorem Piv.step {h k w c : Nat} {A T : Nat → Nat → Int} {s : Int} {P : Nat → Nat} (H : Piv h A T s P k w) (hk : k < h) (hc : c < w) (p0 : T k c ≠ 0) (hP : P k = c) : Piv h A (clr T s k c) (T k c) P (k + 1) w := by
  have kk : ∀ q, q < w → s * A k q = (sm k fun j => T j q * A k (P j)) + T k q := fun q hq => by
    have := H.rel k q hk hq
    rw [if_pos (Nat.le_refl _)] at this
    exact this
  have lo : ∀ i q, i < k → q < w → s * A i q = sm k fun j => T j q * A i (P j) := fun i q hi hq => by
    have := H.rel i q (by omega) hq
    rw [if_neg (by omega), Int.add_zero] at this
    exact this
  -- the determinant of the pivots' columns
  have dk : dtF (k + 1) (fun j i => A i (P j)) = T k c := by
    let C : Nat → Nat → Int := fun j i => A i (P j)
    let u : Nat → Int := fun i => s * A i c - sm k fun j => T j c * A i (P j)
    have h1 : dtF (k + 1) (upv C k u) = s * dtF (k + 1) C := by
      have e1 : u = fun i => s * (fun i => A i c) i + (-1) * (fun i => sm k fun j => T j c * A i (P j)) i := by
        funext i
        simp only [u]
        omega
      rw [e1, dtF_lin (by omega), dtF_sum (by omega)]
      have e2 : (sm k fun j => T j c * dtF (k + 1) (upv C k fun i => A i (P j))) = sm k fun _ => 0 * 0 := sm_congr fun j hj => by
        rw [dtF_alike (l := j) (k := k) (by omega) (by omega) (by omega) fun i => ?_, Int.mul_zero, Int.zero_mul]
        unfold upv
        rw [if_neg (by omega), if_pos rfl]
      rw [e2, sm_mul, Int.zero_mul, Int.mul_zero, Int.add_zero]
      have e3 : upv C k (fun i => A i c) = C := by
        rw [show (fun i => A i c) = C k by funext i; show _ = A i (P k); rw [hP], upv_self]
      rw [e3]
    have h2 : dtF (k + 1) (upv C k u) = T k c * s := by
      rw [dtF_last fun i hi => ?_]
      · have e4 : upv C k u k k = T k c := by
          have := kk c hc
          simp only [upv, if_pos, u]
          omega
        have e5 : dtF k (upv C k u) = s := by
          rw [H.sd]
          exact dtF_congr fun j i hj hi => by
            unfold upv
            rw [if_neg (by omega)]
        rw [e4, e5]
      · have := lo i c hi hc
        simp only [upv, if_pos, u]
        omega
    have h3 : s * dtF (k + 1) C = s * T k c := by rw [← h1, h2, Int.mul_comm]
    exact Int.eq_of_mul_eq_mul_left H.s0 h3
  -- the division comes out
  have ex : ∀ l q, l < k → q < w → ∃ x, T k c * T l q - T l c * T k q = s * x := fun l q hl hq => by
    refine ⟨dtF (k + 1) (upv (fun j i => A i (P j)) l fun i => A i q), ?_⟩
    have cr := dtF_cram (n := k + 1) (l := l) (c := fun j i => A i (P j)) (a := s * T k c) (v := fun i => A i q) (u := fun j => if j = k then s * T k q else T k c * T j q - T j c * T k q) (by omega) fun i hi => ?_
    · rw [dk, if_neg (by omega)] at cr
      have : T k c * (T k c * T l q - T l c * T k q) = T k c * (s * dtF (k + 1) (upv (fun j i => A i (P j)) l fun i => A i q)) := by
        rw [Int.mul_comm (T k c) (T k c * T l q - T l c * T k q), ← cr]
        ac_rfl
      exact Int.eq_of_mul_eq_mul_left p0 this
    · rw [sm_succ]
      simp only [if_pos]
      have e1 : (sm k fun j => (if j = k then s * T k q else T k c * T j q - T j c * T k q) * A i (P j)) = T k c * (sm k fun j => T j q * A i (P j)) - T k q * (sm k fun j => T j c * A i (P j)) := by
        rw [← sm_mul, ← sm_mul, ← sm_sub]
        exact sm_congr fun j hj => by
          rw [if_neg (by omega)]
          grind
      rw [e1, hP]
      rcases Nat.lt_succ_iff_lt_or_eq.mp hi with z | z
      · have r1 := lo i q z hq
        have r2 := lo i c z hc
        generalize (sm k fun j => T j q * A i (P j)) = x1 at *
        generalize (sm k fun j => T j c * A i (P j)) = x2 at *
        grind
      · subst z
        have r1 := kk q hq
        have r2 := kk c hc
        generalize (sm i fun j => T j q * A i (P j)) = x1 at *
        generalize (sm i fun j => T j c * A i (P j)) = x2 at *
        grind
  have key : ∀ i q, i < h → q < w → i ≠ k → s * clr T s k c i q = T k c * T i q - T i c * T k q := fun i q hi hq ne => by
    have e1 : clr T s k c i q = (T k c * T i q - T i c * T k q).fdiv s := by
      unfold clr
      rw [if_neg ne]
    rw [e1]
    by_cases z : i < k
    · obtain ⟨x, hx⟩ := ex i q z hq
      rw [fdiv_of H.s0 hx, hx]
    · -- below: by what the rows above are
      have hi' : k ≤ i := by omega
      have r1 := H.rel i q hi hq
      have r2 := H.rel i c hi hc
      rw [if_pos hi'] at r1 r2
      have y : ∃ x : Nat → Int, ∀ j, j < k → T k c * T j q - T j c * T k q = s * x j := by
        refine ⟨fun j => (T k c * T j q - T j c * T k q).fdiv s, fun j hj => ?_⟩
        obtain ⟨x, hx⟩ := ex j q hj hq
        show _ = s * ((T k c * T j q - T j c * T k q).fdiv s)
        rw [fdiv_of H.s0 hx]
        exact hx
      obtain ⟨x, hx⟩ := y
      have e2 : T k c * T i q - T i c * T k q = s * (T k c * A i q - A i c * T k q - sm k fun j => x j * A i (P j)) := by
        have e3 : s * (sm k fun j => x j * A i (P j)) = T k c * (sm k fun j => T j q * A i (P j)) - T k q * (sm k fun j => T j c * A i (P j)) := by
          rw [← sm_mul, ← sm_mul, ← sm_mul, ← sm_sub]
          exact sm_congr fun j hj => by
            have := hx j hj
            grind
        rw [Int.mul_sub, e3]
        generalize (sm k fun j => T j q * A i (P j)) = x1 at *
        generalize (sm k fun j => T j c * A i (P j)) = x2 at *
        grind
      rw [fdiv_of H.s0 e2, e2]
  refine ⟨hk, p0, dk.symm, fun i q hi hq => ?_⟩
  refine Int.eq_of_mul_eq_mul_left H.s0 ?_
  rw [sm_succ, hP]
  have e0 : clr T s k c k q = T k q := by
    unfold clr
    rw [if_pos rfl]
  rw [e0]
  have e1 : s * (sm k fun j => clr T s k c j q * A i (P j)) = T k c * (sm k fun j => T j q * A i (P j)) - T k q * (sm k fun j => T j c * A i (P j)) := by
    rw [← sm_mul, ← sm_mul, ← sm_mul, ← sm_sub]
    exact sm_congr fun j hj => by
      have := key j q (by omega) hq (by omega)
      grind
  have r1 := H.rel i q hi hq
  have r2 := H.rel i c hi hc
  rcases Nat.lt_trichotomy i k with z | z | z
  · rw [if_neg (by omega)] at r1 r2 ⊢
    generalize (sm k fun j => clr T s k c j q * A i (P j)) = x0 at *
    generalize (sm k fun j => T j q * A i (P j)) = x1 at *
    generalize (sm k fun j => T j c * A i (P j)) = x2 at *
    grind
  · subst z
    rw [if_pos (Nat.le_refl _)] at r1 r2
    rw [if_neg (by omega)]
    generalize (sm i fun j => clr T s i c j q * A i (P j)) = x0 at *
    generalize (sm i fun j => T j q * A i (P j)) = x1 at *
    generalize (sm i fun j => T j c * A i (P j)) = x2 at *
    grind
  · rw [if_pos (by omega)] at r1 r2
    rw [if_pos (by omega)]
    have k1 := key i q hi hq (by omega)
    generalize (sm k fun j => clr T s k c j q * A i (P j)) = x0 at *
    generalize (sm k fun j => T j q * A i (P j)) = x1 at *
    generalize (sm k fun j => T j c * A i (P j)) = x2 at *
    generalize clr T s k c i q = y at *
    grind
end DL
set_option Elab.async false
set_option linter.all false
set_option maxRecDepth 100000
/-! MC: determinants under exchanges of places; kernels; what the elimination's end says. -/
namespace DL
open PySem PySem.Spec L2
open PyProof.Rows hiding St
theorem sm_skp {g : Nat → Int} {j : Nat} : ∀ {n : Nat}, j < n + 1 → sm n (fun l => g (skp j l)) = sm (n + 1) fun m => if m = j then 0 else g m
  | 0, h => by
    obtain rfl : j = 0 := by omega
    rw [sm_succ, sm_zero, sm_zero]
    simp
  | n + 1, h => by
    rw [sm_succ (n := n + 1)]
    by_cases e : j = n + 1
    · rw [if_pos e.symm, Int.add_zero]
      refine sm_congr fun l hl => ?_
      rw [if_neg (by omega), show skp j l = l by unfold skp; rw [if_pos (by omega)]]
    · rw [sm_succ, sm_skp (n := n) (by omega), if_neg (fun z => e z.symm), show skp j n = n + 1 by unfold skp; rw [if_neg (by omega)]]
def eps (j m : Nat) : Int := sg j * sg (usk j m)
theorem sg_sq (j : Nat) : sg j * sg j = 1 := by
  unfold sg
  split <;> rfl
theorem eps_swap {j m : Nat} (h : j ≠ m) : eps m j = -eps j m := by
  unfold eps usk
  rcases Nat.lt_or_gt_of_ne h with q | q
  · rw [if_pos q, if_neg (by omega)]
    obtain ⟨d, rfl⟩ : ∃ d, m = d + 1 := ⟨m - 1, by omega⟩
    rw [sg_succ, show d + 1 - 1 = d by omega]
    grind
  · rw [if_neg (by omega), if_pos q]
    obtain ⟨d, rfl⟩ : ∃ d, j = d + 1 := ⟨j - 1, by omega⟩
    rw [sg_succ, show d + 1 - 1 = d by omega]
    grind
theorem skp2 {j m l : Nat} (h : j ≠ m) : skp j (skp (usk j m) l) = skp m (skp (usk m j) l) := by
  unfold skp usk
  rcases Nat.lt_or_gt_of_ne h with q | q
  · rw [if_neg (show ¬ m < j by omega), if_pos q]
    repeat' split
    all_goals omega
  · rw [if_pos q, if_neg (show ¬ j < m by omega)]
    repeat' split
    all_goals omega
/-- by two places at once -/
theorem dtF_two {n : Nat} {c : Nat → Nat → Int} : dtF (n + 2) c = sm (n + 2) fun j => sm (n + 2) fun m => if m = j then 0 else eps j m * (c j 0 * c m 1) * dtF n (sbv (sbv c j) (usk j m)) := by
  rw [dtF_succ]
  refine sm_congr fun j hj => ?_
  rw [dtF_succ, ← sm_mul, ← sm_skp (g := fun m => eps j m * (c j 0 * c m 1) * dtF n (sbv (sbv c j) (usk j m))) hj]
  refine sm_congr fun l hl => ?_
  have e : usk j (skp j l) = l := ((skp_inj (j := j) (a := l) skp_ne).mp rfl).symm
  unfold eps
  rw [e]
  show sg j * c j 0 * (sg l * c (skp j l) 1 * _) = _
  ac_rfl
theorem sbv2 {c : Nat → Nat → Int} {j m : Nat} (h : j ≠ m) : sbv (sbv c j) (usk j m) = sbv (sbv c m) (usk m j) := by
  funext l i
  show c (skp j (skp (usk j m) l)) _ = c (skp m (skp (usk m j) l)) _
  rw [skp2 h]
/-- places a, a + 1 exchanged -/
theorem dtF_pl : ∀ {a n : Nat} {c : Nat → Nat → Int}, a + 1 < n → dtF n (fun j i => c j (swp a (a + 1) i)) = -dtF n c
  | 0, n, c, h => by
    obtain ⟨n, rfl⟩ : ∃ k, n = k + 2 := ⟨n - 2, by omega⟩
    rw [dtF_two, dtF_two, sm_swap]
    have e0 : -(sm (n + 2) fun j => sm (n + 2) fun m => if m = j then 0 else eps j m * (c j 0 * c m 1) * dtF n (sbv (sbv c j) (usk j m))) = (-1) * sm (n + 2) fun j => sm (n + 2) fun m => if m = j then 0 else eps j m * (c j 0 * c m 1) * dtF n (sbv (sbv c j) (usk j m)) := by omega
    rw [e0, ← sm_mul]
    refine sm_congr fun m hm => ?_
    rw [← sm_mul]
    refine sm_congr fun j hj => ?_
    by_cases e : m = j
    · rw [if_pos e, if_pos e.symm, Int.mul_zero]
    · rw [if_neg e, if_neg (fun z => e z.symm)]
      have e1 : sbv (sbv (fun j i => c j (swp 0 (0 + 1) i)) j) (usk j m) = sbv (sbv c m) (usk m j) := by
        rw [← sbv2 (fun z => e z.symm)]
        funext l i
        show c _ (swp 0 1 (i + 1 + 1)) = c _ (i + 1 + 1)
        rw [show swp 0 1 (i + 1 + 1) = i + 1 + 1 by unfold swp; rw [if_neg (by omega), if_neg (by omega)]]
      rw [e1, eps_swap e]
      show -eps m j * (c j (swp 0 1 0) * c m (swp 0 1 1)) * _ = _
      rw [show swp 0 1 0 = 1 from rfl, show swp 0 1 1 = 0 from rfl]
      grind
  | a + 1, n, c, h => by
    obtain ⟨n, rfl⟩ : ∃ k, n = k + 1 := ⟨n - 1, by omega⟩
    rw [dtF_succ, dtF_succ]
    have e0 : -(sm (n + 1) fun j => sg j * c j 0 * dtF n (sbv c j)) = (-1) * sm (n + 1) fun j => sg j * c j 0 * dtF n (sbv c j) := by omega
    rw [e0, ← sm_mul]
    refine sm_congr fun j hj => ?_
    have e1 : sbv (fun j i => c j (swp (a + 1) (a + 1 + 1) i)) j = fun l i => sbv c j l (swp a (a + 1) i) := by
      funext l i
      show c _ (swp (a + 1) (a + 1 + 1) (i + 1)) = c _ (swp a (a + 1) i + 1)
      have : swp (a + 1) (a + 1 + 1) (i + 1) = swp a (a + 1) i + 1 := by
        unfold swp
        by_cases h1 : i = a
        · rw [if_pos (by omega), if_pos h1]
        · rw [if_neg (by omega), if_neg h1]
          by_cases h2 : i = a + 1
          · rw [if_pos (by omega), if_pos h2]
          · rw [if_neg (by omega), if_neg h2]
      rw [this]
    rw [e1, dtF_pl (a := a) (n := n) (by omega)]
    show sg j * c j (swp (a + 1) (a + 1 + 1) 0) * _ = _
    rw [show swp (a + 1) (a + 1 + 1) 0 = 0 by unfold swp; rw [if_neg (by omega), if_neg (by omega)]]
    grind
theorem swp_conj {a b i : Nat} (h : a < b) : swp a (b + 1) i = swp b (b + 1) (swp a b (swp b (b + 1) i)) := by
  unfold swp
  by_cases h1 : i = a
  · subst h1
    simp (config := { decide := true }) [show ¬ i = b by omega, show ¬ i = b + 1 by omega]
  · by_cases h2 : i = b
    · subst h2
      simp [show ¬ i = a by omega, show ¬ i + 1 = a by omega, show ¬ a = i by omega]
    · by_cases h3 : i = b + 1
      · subst h3
        simp [show ¬ b = a by omega, show ¬ a = b by omega, show ¬ a = b + 1 by omega, show ¬ b + 1 = a by omega]
      · simp [h1, h2, h3]
theorem dtF_plz : ∀ {d a n : Nat} {c : Nat → Nat → Int}, a + 1 + d < n → (dtF n (fun j i => c j (swp a (a + 1 + d) i)) = 0 ↔ dtF n c = 0)
  | 0, a, n, c, h => by
    rw [show a + 1 + 0 = a + 1 from rfl, dtF_pl h]
    omega
  | d + 1, a, n, c, h => by
    have e : (fun j i => c j (swp a (a + 1 + (d + 1)) i)) = fun j i => c j (swp (a + 1 + d) (a + 1 + d + 1) (swp a (a + 1 + d) (swp (a + 1 + d) (a + 1 + d + 1) i))) := by
      funext j i
      rw [show a + 1 + (d + 1) = a + 1 + d + 1 by omega, swp_conj (by omega)]
    have q3 : dtF n (fun j i => c j (swp (a + 1 + d) (a + 1 + d + 1) (swp a (a + 1 + d) (swp (a + 1 + d) (a + 1 + d + 1) i)))) = -dtF n (fun j i => c j (swp (a + 1 + d) (a + 1 + d + 1) (swp a (a + 1 + d) i))) :=
      dtF_pl (a := a + 1 + d) (c := fun j i => c j (swp (a + 1 + d) (a + 1 + d + 1) (swp a (a + 1 + d) i))) (by omega)
    have q : dtF n (fun j i => c j (swp (a + 1 + d) (a + 1 + d + 1) (swp a (a + 1 + d) i))) = 0 ↔ dtF n (fun j i => c j (swp (a + 1 + d) (a + 1 + d + 1) i)) = 0 := dtF_plz (d := d) (a := a) (n := n) (c := fun j i => c j (swp (a + 1 + d) (a + 1 + d + 1) i)) (by omega)
    have q2 := dtF_pl (a := a + 1 + d) (n := n) (c := c) (by omega)
    rw [q2] at q
    rw [e, q3]
    omega
/-- two places exchanged: nought stays nought -/
theorem dtF_ex {a b n : Nat} {c : Nat → Nat → Int} (ha : a < n) (hb : b < n) : dtF n (fun j i => c j (swp a b i)) = 0 ↔ dtF n c = 0 := by
  rcases Nat.lt_trichotomy a b with h | h | h
  · obtain ⟨d, rfl⟩ : ∃ d, b = a + 1 + d := ⟨b - a - 1, by omega⟩
    exact dtF_plz hb
  · subst h
    have e : (fun j i => c j (swp a a i)) = c := by
      funext j i
      have : swp a a i = i := by
        unfold swp
        by_cases z : i = a
        · rw [if_pos z, z]
        · rw [if_neg z, if_neg z]
      rw [this]
    rw [e]
  · obtain ⟨d, rfl⟩ : ∃ d, a = b + 1 + d := ⟨a - b - 1, by omega⟩
    have e : (fun j i => c j (swp (b + 1 + d) b i)) = fun j i => c j (swp b (b + 1 + d) i) := by
      funext j i
      have : swp (b + 1 + d) b i = swp b (b + 1 + d) i := by
        unfold swp
        by_cases z : i = b
        · rw [if_neg (by omega), if_pos z, if_pos z]
        · rw [if_neg z, if_neg z]
      rw [this]
    rw [e]
    exact dtF_plz ha
/-- the law's determinant -/
theorem detF_dt : ∀ {n : Nat} {rows : List (List Int)}, Sq n rows → detF n rows = dtF n fun j i => ce rows i j
  | 0, _, _ => rfl
  | n + 1, rows, h => by
    rw [detF_succ, dtF_succ]
    refine sm_congr fun j hj => ?_
    rw [detF_dt (h.minor hj)]
    show sg j * (rows[0]!)[j]! * _ = sg j * ce rows 0 j * _
    congr 1
    refine dtF_congr fun l i hl hi => ?_
    show ce (minor rows j) i l = ce rows (i + 1) (skp j l)
    have lt : rows.tail.length = n := by rw [List.length_tail, h.len]; omega
    unfold minor
    rw [ce_map (by omega)]
    have et : rows.tail[i]! = rows[i + 1]! := by
      rw [getElem!_pos rows.tail i (by omega), getElem!_pos rows (i + 1) (by rw [h.len]; omega), List.getElem_tail]
    rw [et]
    have hr := h.row (i := i + 1) (by omega)
    unfold cutC ce
    by_cases q : l < j
    · rw [show skp j l = l by unfold skp; rw [if_pos q], getElem!_pos _ l (by rw [List.length_append, List.length_take, List.length_drop]; omega), List.getElem_append_left (by rw [List.length_take]; omega), getElem!_pos _ l (by omega), List.getElem_take]
    · rw [show skp j l = l + 1 by unfold skp; rw [if_neg q], getElem!_pos _ l (by rw [List.length_append, List.length_take, List.length_drop]; omega), List.getElem_append_right (by rw [List.length_take]; omega), getElem!_pos _ (l + 1) (by omega), List.getElem_drop]
      congr 1
      rw [List.length_take]
      omega
theorem detL_dt {n : Nat} {rows : List (List Int)} (h : Sq n rows) : detL rows = dtF n fun j i => ce rows i j := by
  rw [detL, h.len, detF_dt h]
/-! ### kernels, inverses -/
theorem dtF_ker {n : Nat} {c : Nat → Nat → Int} {u : Nat → Int} (hd : dtF n c ≠ 0) (h : ∀ i, i < n → sm n (fun j => u j * c j i) = 0) : ∀ l, l < n → u l = 0 := fun l hl => by
  have q := dtF_cram (n := n) (l := l) (c := c) (a := 0) (v := fun _ => 0) (u := u) hl fun i hi => by rw [h i hi, Int.zero_mul]
  rw [Int.zero_mul] at q
  rcases Int.mul_eq_zero.mp q.symm with z | z
  · exact z
  · exact absurd z hd
/-- a right inverse is a left inverse -/
theorem inv_two {n : Nat} {A X : Nat → Nat → Int} {s : Int} (hd : dtF n (fun j i => A i j) ≠ 0) (h : ∀ i k, i < n → k < n → sm n (fun j => A i j * X j k) = s * dlt i k) : ∀ i k, i < n → k < n → sm n (fun j => X i j * A j k) = s * dlt i k := by
  intro i k hi hk
  have key := dtF_ker (u := fun i => sm n (fun j => X i j * A j k) - s * dlt i k) hd fun i hi => by
    have e1 : sm n (fun l => (sm n (fun j => X l j * A j k) - s * dlt l k) * A i l) = sm n (fun l => sm n fun j => A i l * X l j * A j k) - s * sm n fun l => dlt k l * A i l := by
      rw [← sm_mul, ← sm_sub]
      refine sm_congr fun l hl => ?_
      rw [Int.sub_mul, ← sm_mulR]
      congr 1
      · exact sm_congr fun j _ => by ac_rfl
      · rw [dlt_comm]
        ac_rfl
    rw [e1, sm_swap, sm_dlt, if_pos hk]
    have e2 : sm n (fun j => sm n fun l => A i l * X l j * A j k) = sm n fun j => dlt i j * (s * A j k) := sm_congr fun j hj => by
      rw [sm_mulR, h i j hi hj]
      ac_rfl
    rw [e2, sm_dlt, if_pos hi]
    omega
  have := key i hi
  omega
/-! ### the elimination's end -/
/-- B's rows are A's rows in some order -/
def Prm (h : Nat) (A B : Nat → Nat → Int) : Prop := ∀ i, i < h → ∃ i', i' < h ∧ ∀ q, A i q = B i' q
theorem Prm.refl {h : Nat} {A : Nat → Nat → Int} : Prm h A A := fun i hi => ⟨i, hi, fun _ => rfl⟩
theorem swp_swp {a b i : Nat} : swp a b (swp a b i) = i := by
  unfold swp
  by_cases h1 : i = a
  · subst h1
    rw [if_pos rfl]
    by_cases h2 : b = i
    · rw [if_pos h2, h2]
    · rw [if_neg h2, if_pos rfl]
  · rw [if_neg h1]
    by_cases h2 : i = b
    · rw [if_pos h2, if_pos rfl, h2]
    · rw [if_neg h2, if_neg h1, if_neg h2]
theorem Prm.swap {h a b : Nat} {A B : Nat → Nat → Int} (p : Prm h A B) (ha : a < h) (hb : b < h) : Prm h A fun i q => B (swp a b i) q := fun i hi => by
  obtain ⟨i', h1, h2⟩ := p i hi
  exact ⟨swp a b i', swp_h ha hb h1, fun q => by show A i q = B (swp a b (swp a b i')) q; rw [swp_swp]; exact h2 q⟩
/-- a column that the pivots' columns make: no determinant -/
theorem Piv.dep {h w k n : Nat} {A B T : Nat → Nat → Int} {s : Int} {P : Nat → Nat} (H : Piv h B T s P k w) (p : Prm h A B) (hn : n ≤ h) {q : Nat} (hq : q < n) (hw : n ≤ w) (hP : ∀ j, j < k → P j < q) (z : ∀ i, k ≤ i → i < h → T i q = 0) : dtF n (fun j i => A i j) = 0 := by
  have key := dtF_cram (n := n) (l := q) (c := fun j i => A i j) (a := s) (v := fun i => A i q) (u := fun j => sm k fun l => if P l = j then T l q else 0) hq fun i hi => by
    obtain ⟨i', h1, h2⟩ := p i (by omega)
    have r := H.rel i' q h1 (by omega)
    have z' : (if k ≤ i' then T i' q else 0) = 0 := by
      split
      · exact z i' ‹_› h1
      · rfl
    rw [z', Int.add_zero] at r
    rw [h2 q, r]
    have e1 : (sm n fun j => (sm k fun l => if P l = j then T l q else 0) * A i j) = sm n fun j => sm k fun l => (if P l = j then T l q else 0) * A i j := sm_congr fun j _ => sm_mulR.symm
    rw [e1, sm_swap]
    refine sm_congr fun l hl => ?_
    have e2 : (sm n fun j => (if P l = j then T l q else 0) * A i j) = sm n fun j => dlt (P l) j * (T l q * A i j) := sm_congr fun j _ => by
      unfold dlt
      by_cases y : P l = j
      · rw [if_pos y, if_pos y, Int.one_mul]
      · rw [if_neg y, if_neg y, Int.zero_mul, Int.zero_mul]
    rw [e2, sm_dlt, if_pos (by have := hP l hl; omega), h2]
  have e3 : upv (fun j i => A i j) q (fun i => A i q) = fun j i => A i j := upv_self (c := fun j i => A i j)
  rw [e3] at key
  have e4 : (sm k fun l => if P l = q then T l q else 0) = 0 := by
    have : (sm k fun l => if P l = q then T l q else 0) = sm k fun _ => 0 * 0 := sm_congr fun l hl => by
      rw [if_neg (by have := hP l hl; omega), Int.zero_mul]
    rw [this, sm_mul, Int.zero_mul]
  rw [e4, Int.zero_mul] at key
  rcases Int.mul_eq_zero.mp key with y | y
  · exact absurd y H.s0
  · exact y
/-- all columns are pivots: each further column is a sum -/
theorem Piv.full {n w : Nat} {A B T : Nat → Nat → Int} {s : Int} {P : Nat → Nat} (H : Piv n B T s P n w) (p : Prm n A B) (hP : ∀ j, j < n → P j = j) {i q : Nat} (hi : i < n) (hq : q < w) : sm n (fun j => A i j * T j q) = s * A i q := by
  obtain ⟨i', h1, h2⟩ := p i hi
  have r := H.rel i' q h1 hq
  rw [if_neg (by omega), Int.add_zero] at r
  rw [h2 q, r]
  exact sm_congr fun j hj => by rw [hP j hj, h2]; ac_rfl
end DL
set_option Elab.async false
set_option linter.all false
set_option maxRecDepth 100000
/-! DR: starred displays; lists that may be written, read; tables of any shape; what reduced promises. -/
namespace DL
open PySem PySem.Spec L2
open PyProof.Rows hiding St
section
variable {X : Cx} {KK : PySem.W.Frag} {e : Expr} {es : List Expr} {te : TE} {t : TA} {p : Pos}
theorem pa_starK (hK : X.K = KK) (he : PE X e te) (hr : PA X es t) (hs : starEach (.Starred e p :: es) X.env = (true, eval e X.env) :: starEach es X.env := by rfl) : PA X (.Starred e p :: es) (StX.tStar KK te t) := by
  subst hK
  exact StX.pa_star he hr hs
end
section
variable {W : WX} {E : ET} {r : Rho} {m : Mu} {K : KT} {KA : List D → Mu → Prop} {G : Gx} {te : TE} {t : TA} {d x : D} {xs : List D} {i : Int}
theorem wa_star (h : We W E te r m fun d m1 => ∃ ps xs, SeqM d m1 ps xs ∧ Wa W E t r m1 fun ds m2 => KA (xs ++ ds) m2) : Wa W E (StX.tStar G.K te t) r m KA := fun s H Q e z g =>
  h s H _ e z fun d m1 v H1 s1 mu1 r1 ⟨ps, xs, sm, q⟩ => by
    obtain ⟨k, a, rfl, qa⟩ := sm.at (K := G.K) r1 mu1
    obtain ⟨vs, sq, rs⟩ := qa m1 H1 (Stp.refl _ _) mu1 Sub.refl
    have sq' : SqT G.K H1 a vs ∨ SqL G.K H1 a vs := by
      cases k with
      | true => exact .inl sq
      | false => exact .inr sq
    refine ⟨a, vs, rfl, sq', ?_⟩
    exact q s H1 _ (e.step s1 mu1) (z.step s1) fun ds m2 ws H2 s2 mu2 r2 q2 => g _ m2 _ H2 (s1.trans s2) mu2 (Reps.append (rs.mono s2) r2) q2
theorem w2_ixLst (l : LstM d m xs) (h : atI xs i = some x ∧ K x m) : W2 W E (oIx G) d (.int i) r m K := by
  cases l with
  | lst => exact w2_ixL h
  | mutb hp => exact w2_ixM hp h
theorem LstM.len (l : LstM d m xs) : LenD d m xs.length := by
  cases l with
  | lst => exact .lst
  | mutb hp => exact .mutb hp
end
/-! ### tables -/
def tabR (h w : Nat) (f : Nat → Nat → Int) : List (List Int) := (List.range h).map fun i => (List.range w).map fun q => f i q
structure Rc (h w : Nat) (rows : List (List Int)) : Prop where
  len : rows.length = h
  wid : ∀ r ∈ rows, r.length = w
section
variable {h w i q : Nat} {f g : Nat → Nat → Int} {rows : List (List Int)}
theorem tabR_rc : Rc h w (tabR h w f) := by
  refine ⟨by rw [tabR, List.length_map, List.length_range], fun r hr => ?_⟩
  obtain ⟨i, _, rfl⟩ := List.mem_map.mp hr
  rw [List.length_map, List.length_range]
theorem tabR_len : (tabR h w f).length = h := tabR_rc.len
theorem tabR_row (hi : i < h) : (tabR h w f)[i]! = (List.range w).map fun q => f i q := range_at' hi
theorem tabR_ce (hi : i < h) (hq : q < w) : ce (tabR h w f) i q = f i q := by
  unfold ce
  rw [tabR_row hi, range_at' hq]
theorem tabR_congr (e : ∀ i q, i < h → q < w → f i q = g i q) : tabR h w f = tabR h w g :=
  List.map_congr_left fun i hi => List.map_congr_left fun q hq => e i q (List.mem_range.mp hi) (List.mem_range.mp hq)
theorem Rc.row (rc : Rc h w rows) (hi : i < h) : (rows[i]!).length = w := rc.wid _ (mem_at (by rw [rc.len]; exact hi))
theorem tabR_of (rc : Rc h w rows) : tabR h w (ce rows) = rows := by
  have e : tabR h w (ce rows) = (List.range h).map fun i => rows[i]! := List.map_congr_left fun i hi => map_range (rc.row (List.mem_range.mp hi))
  rw [e, map_range rc.len]
theorem tabR_sq {n : Nat} : tabR n n f = tabF n f := rfl
theorem tabR_at (hi : i < h) : ((tabR h w f).map li)[i]? = some (li ((List.range w).map fun q => f i q)) := by
  simp [tabR, hi]
theorem tabR_set {v : Nat → Int} (hi : i < h) : ((tabR h w f).map li).set i (li ((List.range w).map v)) = (tabR h w fun a q => if a = i then v q else f a q).map li := by
  refine List.ext_getElem (by simp [tabR]) fun a h1 h2 => ?_
  have ha : a < h := by simpa [tabR] using h2
  rw [List.getElem_set]
  by_cases e : i = a
  · subst e
    simp [tabR]
  · have : ¬ a = i := fun z => e z.symm
    simp [tabR, e, this]
theorem tabR_take {k : Nat} (hk : k ≤ h) : (tabR h w f).take k = tabR k w f := by
  unfold tabR
  rw [← List.map_take, List.take_range, Nat.min_eq_left hk]
end
theorem ixN_nat {n j : Nat} (h : j < n) : ixN n (j : Int) = some j := by
  unfold ixN
  rw [if_pos (by omega), if_pos (by omega)]
  rfl
/-! ### sizes -/
theorem dtF_bd {b : Nat} : ∀ {n : Nat} {c : Nat → Nat → Int}, n ≤ 64 → (∀ j i, j < n → i < n → Bd b (c j i)) → Bd (n * (b + 66) + 1) (dtF n c)
  | 0, _, _, _ => (show Bd 1 (1 : Int) from bd_lit (by decide)).mono (by omega)
  | n + 1, c, hn, s => by
    have key : Bd ((1 + b + (n * (b + 66) + 1)) + ((List.range (n + 1)).map fun j => sg j * c j 0 * dtF n (sbv c j)).length) (dtF (n + 1) c) := bd_sum fun z hz => by
      obtain ⟨j, hj, rfl⟩ := List.mem_map.mp hz
      have hj := List.mem_range.mp hj
      exact ((sg_bd j).mul (s j 0 hj (by omega))).mul (dtF_bd (by omega) fun l i hl hi => s _ _ (skp_lt hl) (by omega))
    refine key.mono ?_
    rw [List.length_map, List.length_range, Nat.succ_mul]
    omega
theorem bd_sm {b : Nat} {f : Nat → Int} {n : Nat} (h : ∀ i, i < n → Bd b (f i)) : Bd (b + n) (sm n f) := by
  have key : Bd (b + ((List.range n).map f).length) (sm n f) := bd_sum fun z hz => by
    obtain ⟨j, hj, rfl⟩ := List.mem_map.mp hz
    exact h j (List.mem_range.mp hj)
  rwa [List.length_map, List.length_range] at key
theorem Piv.top {h w k l q : Nat} {A T : Nat → Nat → Int} {s : Int} {P : Nat → Nat} (H : Piv h A T s P k w) (hl : l < k) (hq : q < w) : T l q = dtF k (upv (fun j i => A i (P j)) l fun i => A i q) := by
  have cr := dtF_cram (n := k) (l := l) (c := fun j i => A i (P j)) (a := s) (v := fun i => A i q) (u := fun j => T j q) hl fun i hi => by
    have r := H.rel i q (by have := H.kh; omega) hq
    rw [if_neg (by omega), Int.add_zero] at r
    exact r
  rw [← H.sd, Int.mul_comm (T l q)] at cr
  exact (Int.eq_of_mul_eq_mul_left H.s0 cr).symm
theorem Piv.sz {h w k b : Nat} {A T : Nat → Nat → Int} {s : Int} {P : Nat → Nat} (H : Piv h A T s P k w) (hh : h ≤ 64) (hP : ∀ j, j < k → P j < w) (sz : ∀ i q, i < h → q < w → Bd b (A i q)) : Bd (k * (b + 66) + 1) s ∧ ∀ i q, i < h → q < w → Bd ((k + 1) * (b + 66) + 3) (T i q) := by
  have kh := H.kh
  have sb : Bd (k * (b + 66) + 1) s := by
    rw [H.sd]
    exact dtF_bd (by omega) fun j i hj hi => sz i (P j) (by omega) (hP j hj)
  have tb : ∀ l q, l < k → q < w → Bd (k * (b + 66) + 1) (T l q) := fun l q hl hq => by
    rw [H.top hl hq]
    exact dtF_bd (by omega) fun j i hj hi => by
      unfold upv
      split
      · exact sz i q (by omega) hq
      · exact sz i (P j) (by omega) (hP j hj)
  refine ⟨sb, fun i q hi hq => ?_⟩
  by_cases z : i < k
  · exact (tb i q z hq).mono (by rw [Nat.succ_mul]; omega)
  · have r := H.rel i q hi hq
    rw [if_pos (by omega)] at r
    have e : T i q = s * A i q - sm k fun j => T j q * A i (P j) := by omega
    rw [e]
    have b1 := sb.mul (sz i q hi hq)
    have b2 := bd_sm (n := k) fun j hj => (tb j q hj hq).mul (sz i (P j) hi (hP j hj))
    exact ((b1.mono (show _ ≤ k * (b + 66) + 1 + b + 64 by omega)).sub (b2.mono (by omega))).mono (by rw [Nat.succ_mul]; omega)
/-! ### what reduced promises -/
/-- column c is made of the pivots' columns ahead of it -/
def DepC (h : Nat) (A : Nat → Nat → Int) (P : Nat → Nat) (k c : Nat) : Prop := ∃ k', k' ≤ k ∧ (∀ j, j < k' → P j < c) ∧ ∃ (s : Int) (u : Nat → Int), s ≠ 0 ∧ ∀ i, i < h → s * A i c = sm k' fun j => u j * A i (P j)
structure Red (h w n : Nat) (A : Nat → Nat → Int) (P : Nat → Nat) (k : Nat) (T : Nat → Nat → Int) (s : Int) : Prop where
  ex : ∃ B, Piv h B T s P k w ∧ Prm h A B ∧ Prm h B A ∧ (∀ m, m ≤ h → m = h → (dtF m (fun j i => A i j) = 0 ↔ dtF m (fun j i => B i j) = 0))
  mono : ∀ i j, i < j → j < k → P i < P j
  lt : ∀ j, j < k → P j < n
  dep : ∀ c, c < n → (∀ j, j < k → P j ≠ c) → DepC h A P k c
theorem Red.zero {h w : Nat} {A : Nat → Nat → Int} {P : Nat → Nat} : Red h w 0 A P 0 A 1 :=
  ⟨⟨A, Piv.zero, Prm.refl, Prm.refl, fun _ _ _ => Iff.rfl⟩, fun _ _ _ h => absurd h (Nat.not_lt_zero _), fun _ h => absurd h (Nat.not_lt_zero _), fun _ h => absurd h (Nat.not_lt_zero _)⟩
theorem Red.sz {h w n k b : Nat} {A T : Nat → Nat → Int} {P : Nat → Nat} {s : Int} (R : Red h w n A P k T s) (hn : n ≤ w) (hh : h ≤ 64) (sz : ∀ i q, i < h → q < w → Bd b (A i q)) : k ≤ h ∧ s ≠ 0 ∧ Bd (k * (b + 66) + 1) s ∧ ∀ i q, i < h → q < w → Bd ((k + 1) * (b + 66) + 3) (T i q) := by
  obtain ⟨B, H, _, pb, _⟩ := R.ex
  obtain ⟨h1, h2⟩ := H.sz hh (fun j hj => by have := R.lt j hj; omega) fun i q hi hq => by
    obtain ⟨i', h1, h2⟩ := pb i hi
    rw [h2]
    exact sz i' q h1 hq
  exact ⟨H.kh, H.s0, h1, h2⟩
/-- a column that is no pivot -/
theorem Red.skip {h w n k : Nat} {A T : Nat → Nat → Int} {P : Nat → Nat} {s : Int} (R : Red h w n A P k T s) (hw : n < w) (z : ∀ i, k ≤ i → i < h → T i n = 0) : Red h w (n + 1) A P k T s := by
  refine ⟨R.ex, R.mono, fun j hj => by have := R.lt j hj; omega, fun c hc hne => ?_⟩
  by_cases e : c < n
  · exact R.dep c e hne
  · obtain rfl : c = n := by omega
    obtain ⟨B, H, p, _, _⟩ := R.ex
    refine ⟨k, Nat.le_refl _, R.lt, s, fun j => T j c, H.s0, fun i hi => ?_⟩
    obtain ⟨i', h1, h2⟩ := p i hi
    have r := H.rel i' c h1 hw
    have z' : (if k ≤ i' then T i' c else 0) = 0 := by
      split
      · exact z i' ‹_› h1
      · rfl
    rw [z', Int.add_zero] at r
    rw [h2 c, r]
    exact sm_congr fun j _ => by rw [h2]
/-- a pivot in column n, in the row p -/
theorem Red.pivot {h w n k p : Nat} {A T : Nat → Nat → Int} {P : Nat → Nat} {s : Int} (R : Red h w n A P k T s) (hw : n < w) (hk : k ≤ p) (hp : p < h) (p0 : T p n ≠ 0) :
    Red h w (n + 1) A (fun j => if j = k then n else P j) (k + 1) (clr (fun i q => T (swp k p i) q) s k n) (T p n) := by
  obtain ⟨B, H, pr, pb, dq⟩ := R.ex
  have H2 := H.swap (a := k) (b := p) (Nat.le_refl _) hk (by omega) hp
  have H3 : Piv h (fun i q => B (swp k p i) q) (fun i q => T (swp k p i) q) s (fun j => if j = k then n else P j) k w := by
    refine ⟨H2.kh, H2.s0, ?_, fun i q hi hq => ?_⟩
    · rw [H2.sd]
      exact dtF_congr fun j i hj hi => by rw [if_neg (by omega)]
    · rw [H2.rel i q hi hq]
      congr 1
      exact sm_congr fun j hj => by rw [if_neg (by omega)]
  have sk : swp k p k = p := by
    unfold swp
    rw [if_pos rfl]
  have st := H3.step (c := n) (by omega) hw (by show T (swp k p k) n ≠ 0; rw [sk]; exact p0) (by show (if k = k then n else P k) = n; rw [if_pos rfl])
  rw [sk] at st
  refine ⟨⟨_, st, pr.swap (by omega) hp, fun i hi => pb (swp k p i) (swp_h (by omega) hp hi), fun m hm em => ?_⟩, fun i j hij hj => ?_, fun j hj => ?_, fun c hc hne => ?_⟩
  · rw [dq m hm em]
    exact (dtF_ex (a := k) (b := p) (n := m) (c := fun j i => B i j) (by omega) (by omega)).symm
  · by_cases e : j = k
    · rw [if_pos e, if_neg (by omega)]
      exact R.lt i (by omega)
    · rw [if_neg e, if_neg (by omega)]
      exact R.mono i j hij (by omega)
  · by_cases e : j = k
    · rw [if_pos e]
      omega
    · rw [if_neg e]
      have := R.lt j (by omega)
      omega
  · have e : c ≠ n := fun e => hne k (by omega) (by rw [if_pos rfl, e])
    obtain ⟨k', h1, h2, s', u, s0, hu⟩ := R.dep c (by omega) fun j hj => by
      have := hne j (by omega)
      rwa [if_neg (by omega)] at this
    have en : ∀ j, j < k' → (fun j => if j = k then n else P j) j = P j := fun j hj => if_neg (by omega)
    refine ⟨k', by omega, fun j hj => by rw [en j hj]; exact h2 j hj, s', u, s0, fun i hi => ?_⟩
    rw [hu i hi]
    exact sm_congr fun j hj => by rw [en j hj]
end DL
set_option Elab.async false
set_option linter.all false
set_option maxRecDepth 100000
/-! MD: what reduced says of square tables; grids that solve. -/
namespace DL
open PySem PySem.Spec L2
open PyProof.Rows hiding St
theorem dep_zero {n k : Nat} {A : Nat → Nat → Int} {P : Nat → Nat} {s : Int} {u : Nat → Int} {q : Nat} (hq : q < n) (s0 : s ≠ 0) (hP : ∀ j, j < k → P j < q) (h : ∀ i, i < n → s * A i q = sm k fun j => u j * A i (P j)) : dtF n (fun j i => A i j) = 0 := by
  have key := dtF_cram (n := n) (l := q) (c := fun j i => A i j) (a := s) (v := fun i => A i q) (u := fun j => sm k fun l => if P l = j then u l else 0) hq fun i hi => by
    rw [h i hi]
    have e1 : (sm n fun j => (sm k fun l => if P l = j then u l else 0) * A i j) = sm n fun j => sm k fun l => (if P l = j then u l else 0) * A i j := sm_congr fun j _ => sm_mulR.symm
    rw [e1, sm_swap]
    refine sm_congr fun l hl => ?_
    have e2 : (sm n fun j => (if P l = j then u l else 0) * A i j) = sm n fun j => dlt (P l) j * (u l * A i j) := sm_congr fun j _ => by
      unfold dlt
      by_cases y : P l = j
      · rw [if_pos y, if_pos y, Int.one_mul]
      · rw [if_neg y, if_neg y, Int.zero_mul, Int.zero_mul]
    rw [e2, sm_dlt, if_pos (by have := hP l hl; omega)]
  have e3 : upv (fun j i => A i j) q (fun i => A i q) = fun j i => A i j := upv_self (c := fun j i => A i j)
  rw [e3] at key
  have e4 : (sm k fun l => if P l = q then u l else 0) = 0 := by
    have : (sm k fun l => if P l = q then u l else 0) = sm k fun _ => 0 * 0 := sm_congr fun l hl => by
      rw [if_neg (by have := hP l hl; omega), Int.zero_mul]
    rw [this, sm_mul, Int.zero_mul]
  rw [e4, Int.zero_mul] at key
  rcases Int.mul_eq_zero.mp key with y | y
  · exact absurd y s0
  · exact y
theorem mono_ge {k : Nat} {P : Nat → Nat} (h : ∀ i j, i < j → j < k → P i < P j) : ∀ j, j < k → j ≤ P j
  | 0, _ => Nat.zero_le _
  | j + 1, hj => by
    have h1 := mono_ge h j (by omega)
    have h2 := h j (j + 1) (by omega) hj
    omega
theorem mono_miss {k : Nat} {P : Nat → Nat} (h : ∀ i j, i < j → j < k → P i < P j) : ∀ t, t ≤ k → (∀ j, j < t → P j = j) ∨ ∃ c, c < t ∧ ∀ j, j < k → P j ≠ c
  | 0, _ => .inl fun j hj => absurd hj (Nat.not_lt_zero _)
  | t + 1, ht => by
    rcases mono_miss h t (by omega) with q | ⟨c, hc, q⟩
    · by_cases e : P t = t
      · refine .inl fun j hj => ?_
        rcases Nat.lt_succ_iff_lt_or_eq.mp hj with z | z
        · exact q j z
        · rw [z, e]
      · refine .inr ⟨t, by omega, fun j hj z => ?_⟩
        have g := mono_ge h t (by omega)
        rcases Nat.lt_trichotomy j t with y | y | y
        · rw [q j y] at z
          omega
        · rw [y] at z
          exact e z
        · have := h t j y hj
          omega
    · exact .inr ⟨c, by omega, q⟩
theorem Red.less {n w k : Nat} {A T : Nat → Nat → Int} {P : Nat → Nat} {s : Int} (R : Red n w n A P k T s) (hk : k < n) : dtF n (fun j i => A i j) = 0 := by
  have ⟨c, hc, miss⟩ : ∃ c, c < n ∧ ∀ j, j < k → P j ≠ c := by
    rcases mono_miss R.mono k (Nat.le_refl _) with q | ⟨c, hc, q⟩
    · exact ⟨k, hk, fun j hj e => by rw [q j hj] at e; omega⟩
    · exact ⟨c, by omega, q⟩
  obtain ⟨k', _, h2, s', u, s0, hu⟩ := R.dep c hc miss
  exact dep_zero hc s0 h2 hu
theorem Red.ids {n w : Nat} {A T : Nat → Nat → Int} {P : Nat → Nat} {s : Int} (R : Red n w n A P n T s) : ∀ j, j < n → P j = j := by
  rcases mono_miss R.mono n (Nat.le_refl _) with q | ⟨c, hc, q⟩
  · exact q
  · -- n values below n, none of them c
    exfalso
    have up : ∀ d j, j + d < n → P j + d ≤ P (j + d) := fun d => by
      induction d with
      | zero => intro j _; exact Nat.le_refl _
      | succ d ih =>
        intro j hj
        have h1 := ih j (by omega)
        have h2 := R.mono (j + d) (j + (d + 1)) (by omega) hj
        omega
    have h1 := mono_ge R.mono c hc
    have h2 := up (n - 1 - c) c (by omega)
    have h3 := R.lt (c + (n - 1 - c)) (by omega)
    exact q c hc (by omega)
theorem Red.full {n w : Nat} {A T : Nat → Nat → Int} {P : Nat → Nat} {s : Int} (R : Red n w n A P n T s) : s ≠ 0 ∧ dtF n (fun j i => A i j) ≠ 0 ∧ ∀ i q, i < n → q < w → sm n (fun j => A i j * T j q) = s * A i q := by
  have ids := R.ids
  obtain ⟨B, H, p, _, dq⟩ := R.ex
  refine ⟨H.s0, fun z => H.s0 ?_, fun i q hi hq => H.full p ids hi hq⟩
  have e := (dq n (Nat.le_refl _) rfl).mp z
  rw [H.sd, ← e]
  exact dtF_congr fun j i hj hi => by rw [ids j hj]
/-- two tables beside each other -/
def bsd (n : Nat) (A B : Nat → Nat → Int) : Nat → Nat → Int := fun i q => if q < n then A i q else B i (q - n)
theorem bsd_lst {n w : Nat} {R B : List (List Int)} (hR : Rc n n R) (hB : Rc n w B) : (R.zip B).map (fun p => D.lst (p.1.map D.int ++ p.2.map D.int)) = (tabR n (n + w) (bsd n (ce R) (ce B))).map li := by
  refine List.ext_getElem (by simp [tabR, hR.len, hB.len]) fun i h1 h2 => ?_
  have hi : i < n := by simpa [tabR] using h2
  have lR : i < R.length := by rw [hR.len]; exact hi
  have lB : i < B.length := by rw [hB.len]; exact hi
  have r1 := hR.row hi
  have r2 := hB.row hi
  rw [getElem!_pos R i (by rw [hR.len]; exact hi)] at r1
  rw [getElem!_pos B i (by rw [hB.len]; exact hi)] at r2
  simp only [List.getElem_map, List.getElem_zip, tabR, List.getElem_range]
  show D.lst _ = D.lst _
  congr 1
  rw [← List.map_append]
  congr 1
  refine List.ext_getElem (by simp [r1, r2]) fun q h3 h4 => ?_
  have hq : q < n + w := by simpa using h4
  simp only [List.getElem_map, List.getElem_range, bsd]
  by_cases z : q < n
  · rw [if_pos z, List.getElem_append_left (by omega)]
    unfold ce
    rw [getElem!_pos R i (by rw [hR.len]; exact hi), getElem!_pos R[i] q (by omega)]
  · rw [if_neg z, List.getElem_append_right (by omega)]
    unfold ce
    rw [getElem!_pos B i (by rw [hB.len]; exact hi), getElem!_pos B[i] (q - n) (by omega)]
    congr 1
    omega
theorem bsd_sz {n w b : Nat} {R B : List (List Int)} (hR : Rc n n R) (hB : Rc n w B) (zR : SzT b R) (zB : SzT b B) : ∀ i q, i < n → q < n + w → Bd b (bsd n (ce R) (ce B) i q) := fun i q hi hq => by
  unfold bsd
  split
  · exact zR _ (mem_at (by rw [hR.len]; exact hi)) _ (mem_at (by rw [hR.row hi]; assumption))
  · exact zB _ (mem_at (by rw [hB.len]; exact hi)) _ (mem_at (by rw [hB.row hi]; omega))
/-- the columns behind, times a number -/
theorem cut_lst {n w : Nat} {T : Nat → Nat → Int} {c : Int} : (tabR n (n + w) T).map (fun row => D.lst ((row.drop n).map fun x => D.int (x * c))) = (tabR n w fun i q => T i (n + q) * c).map li := by
  unfold tabR
  rw [List.map_map, List.map_map]
  refine List.map_congr_left fun i _ => ?_
  show D.lst (List.map _ (List.drop n (List.map _ _))) = D.lst (List.map D.int (List.map _ _))
  rw [List.map_map, ← List.map_drop, List.map_map]
  congr 1
  refine List.ext_getElem (by simp) fun q h1 h2 => ?_
  simp
/-- X over x is what times A over a is B over b -/
structure SolF (n w : Nat) (A : Nat → Nat → Int) (a : Int) (B : Nat → Nat → Int) (b : Int) (X : Nat → Nat → Int) (x : Int) : Prop where
  h : ∀ i q, i < n → q < w → sm n (fun j => A i j * X j q) * b = B i q * (a * x)
section
variable {n w : Nat} {A B X A' B' X' : Nat → Nat → Int} {a b x : Int}
theorem SolF.congr (h : SolF n w A a B b X x) (ha : ∀ i j, i < n → j < n → A' i j = A i j) (hb : ∀ i q, i < n → q < w → B' i q = B i q) (hx : ∀ i q, i < n → q < w → X' i q = X i q) : SolF n w A' a B' b X' x :=
  ⟨fun i q hi hq => by
    rw [hb i q hi hq, ← h.h i q hi hq]
    congr 1
    exact sm_congr fun j hj => by rw [ha i j hi hj, hx j q hj hq]⟩
theorem SolF.redX {g : Int} (hg : g ≠ 0) (h : SolF n w A a B b (fun i j => g * X i j) (g * x)) : SolF n w A a B b X x := ⟨fun i q hi hq => by
  have e := h.h i q hi hq
  rw [show sm n (fun j => A i j * (g * X j q)) = g * sm n fun j => A i j * X j q by rw [← sm_mul]; exact sm_congr fun j _ => by ac_rfl] at e
  exact Int.eq_of_mul_eq_mul_left hg (by rw [← Int.mul_assoc, e]; ac_rfl)⟩
theorem SolF.sclA {g : Int} (h : SolF n w A a B b X x) : SolF n w (fun i j => g * A i j) (g * a) B b X x := ⟨fun i q hi hq => by
  rw [show sm n (fun j => g * A i j * X j q) = g * sm n fun j => A i j * X j q by rw [← sm_mul]; exact sm_congr fun j _ => by ac_rfl, Int.mul_assoc, h.h i q hi hq]
  ac_rfl⟩
theorem SolF.sclB {g : Int} (h : SolF n w A a B b X x) : SolF n w A a (fun i j => g * B i j) (g * b) X x := ⟨fun i q hi hq => by
  rw [show sm n (fun j => A i j * X j q) * (g * b) = g * (sm n (fun j => A i j * X j q) * b) by ac_rfl, h.h i q hi hq]
  ac_rfl⟩
end
end DL
set_option Elab.async false
set_option linter.all false
set_option maxRecDepth 100000
/-! ME: what is made of vectors; which columns are pivots. -/
namespace DL
open PySem PySem.Spec L2
open PyProof.Rows hiding St
/-- whole multiples of x, on the first h places, are sums of multiples of S's vectors -/
inductive LSp (h : Nat) (S : (Nat → Int) → Prop) : (Nat → Int) → Prop
  | zero : LSp h S fun _ => 0
  | mem {x : Nat → Int} (a : S x) : LSp h S x
  | add {x y : Nat → Int} (a : LSp h S x) (b : LSp h S y) : LSp h S fun i => x i + y i
  | smul {x : Nat → Int} (c : Int) (a : LSp h S x) : LSp h S fun i => c * x i
  | congr {x y : Nat → Int} (a : LSp h S x) (e : ∀ i, i < h → x i = y i) : LSp h S y
def InQ (h : Nat) (S : (Nat → Int) → Prop) (x : Nat → Int) : Prop := ∃ t : Int, t ≠ 0 ∧ LSp h S fun i => t * x i
section
variable {h : Nat} {S S' : (Nat → Int) → Prop} {x y : Nat → Int}
theorem InQ.mem (a : S x) : InQ h S x := ⟨1, by decide, .congr (.mem a) fun i _ => by rw [Int.one_mul]⟩
theorem InQ.zero : InQ h S fun _ => 0 := ⟨1, by decide, .congr .zero fun i _ => by rw [Int.mul_zero]⟩
theorem InQ.congr (a : InQ h S x) (e : ∀ i, i < h → x i = y i) : InQ h S y := by
  obtain ⟨t, t0, l⟩ := a
  exact ⟨t, t0, l.congr fun i hi => by rw [e i hi]⟩
theorem InQ.add (a : InQ h S x) (b : InQ h S y) : InQ h S fun i => x i + y i := by
  obtain ⟨t, t0, l⟩ := a
  obtain ⟨u, u0, k⟩ := b
  exact ⟨t * u, Int.mul_ne_zero t0 u0, .congr (.add (.smul u l) (.smul t k)) fun i _ => by grind⟩
theorem InQ.smul (c : Int) (a : InQ h S x) : InQ h S fun i => c * x i := by
  obtain ⟨t, t0, l⟩ := a
  exact ⟨t, t0, .congr (.smul c l) fun i _ => by show c * (t * x i) = t * (c * x i); ac_rfl⟩
theorem InQ.div {c : Int} (hc : c ≠ 0) (a : InQ h S fun i => c * x i) : InQ h S x := by
  obtain ⟨t, t0, l⟩ := a
  exact ⟨t * c, Int.mul_ne_zero t0 hc, l.congr fun i _ => by show t * (c * x i) = t * c * x i; ac_rfl⟩
theorem InQ.lsp (f : ∀ y, S y → InQ h S' y) (a : LSp h S x) : InQ h S' x := by
  induction a with
  | zero => exact .zero
  | mem a => exact f _ a
  | add _ _ a b => exact a.add b
  | smul c _ a => exact a.smul c
  | congr _ e a => exact a.congr e
theorem InQ.trans (f : ∀ y, S y → InQ h S' y) (a : InQ h S x) : InQ h S' x := by
  obtain ⟨t, t0, l⟩ := a
  exact (InQ.lsp f l).div t0
theorem InQ.sum {n : Nat} {u : Nat → Int} {v : Nat → Nat → Int} (f : ∀ j, j < n → InQ h S (v j)) : InQ h S fun i => sm n fun j => u j * v j i := by
  induction n with
  | zero => exact InQ.zero
  | succ n ih =>
    exact ((ih fun j hj => f j (by omega)).add ((f n (by omega)).smul (u n))).congr fun i _ => sm_succ.symm
/-- the coefficients, of n vectors -/
theorem LSp.coef {n : Nat} {v : Nat → Nat → Int} (a : LSp h (fun y => ∃ j, j < n ∧ y = v j) x) : ∃ u : Nat → Int, ∀ i, i < h → x i = sm n fun j => u j * v j i := by
  induction a with
  | zero => exact ⟨fun _ => 0, fun i _ => by rw [sm_mul, Int.zero_mul]⟩
  | mem a =>
    obtain ⟨j, hj, rfl⟩ := a
    refine ⟨dlt j, fun i _ => ?_⟩
    rw [sm_dlt (f := fun l => v l i), if_pos hj]
  | add _ _ a b =>
    obtain ⟨u, hu⟩ := a
    obtain ⟨w, hw⟩ := b
    refine ⟨fun j => u j + w j, fun i hi => ?_⟩
    show _ + _ = sm n _
    rw [hu i hi, hw i hi, ← sm_add]
    exact sm_congr fun j _ => by grind
  | smul c _ a =>
    obtain ⟨u, hu⟩ := a
    refine ⟨fun j => c * u j, fun i hi => ?_⟩
    show c * _ = sm n _
    rw [hu i hi, ← sm_mul]
    exact sm_congr fun j _ => by grind
  | congr _ e a =>
    obtain ⟨u, hu⟩ := a
    exact ⟨u, fun i hi => by rw [← e i hi, hu i hi]⟩
end
/-- column c is made of the columns ahead of it -/
def PreC (h : Nat) (A : Nat → Nat → Int) (c : Nat) : Prop := InQ h (fun y => ∃ j, j < c ∧ y = fun i => A i j) fun i => A i c
/-! ### any elimination by rows in any order -/
structure Rdc (h w n : Nat) (A : Nat → Nat → Int) (P : Nat → Nat) (k : Nat) (T : Nat → Nat → Int) (s : Int) : Prop where
  ex : ∃ B, Piv h B T s P k w ∧ Prm h A B ∧ Prm h B A
  mono : ∀ i j, i < j → j < k → P i < P j
  lt : ∀ j, j < k → P j < n
  dep : ∀ c, c < n → (∀ j, j < k → P j ≠ c) → DepC h A P k c
theorem Red.rdc {h w n k : Nat} {A T : Nat → Nat → Int} {P : Nat → Nat} {s : Int} (R : Red h w n A P k T s) : Rdc h w n A P k T s := by
  obtain ⟨B, H, a, b, _⟩ := R.ex
  exact ⟨⟨B, H, a, b⟩, R.mono, R.lt, R.dep⟩
/-- the pivots are the columns that those ahead do not make -/
theorem Rdc.iff {h w k : Nat} {A T : Nat → Nat → Int} {P : Nat → Nat} {s : Int} (R : Rdc h w w A P k T s) {c : Nat} (hc : c < w) : (∃ j, j < k ∧ P j = c) ↔ ¬ PreC h A c := by
  constructor
  · rintro ⟨j, hj, rfl⟩ z
    -- the columns ahead are made of the pivots ahead
    have z2 : InQ h (fun y => ∃ l, l < j ∧ y = (fun l i => A i (P l)) l) fun i => A i (P j) := InQ.trans (fun y hy => by
      obtain ⟨l, hl, rfl⟩ := hy
      by_cases e : ∃ m, m < k ∧ P m = l
      · obtain ⟨m, hm, e⟩ := e
        subst e
        refine InQ.mem ⟨m, ?_, rfl⟩
        refine Nat.lt_of_not_le fun z => ?_
        rcases Nat.lt_or_eq_of_le z with z | z
        · have := R.mono j m z hm
          omega
        · subst z
          omega
      · obtain ⟨k', h1, h2, s', u, s0, hu⟩ := R.dep l (by have := R.lt j hj; omega) fun m hm y => e ⟨m, hm, y⟩
        refine InQ.div s0 (InQ.congr (InQ.sum (n := k') (u := u) (v := fun m i => A i (P m)) fun m hm => InQ.mem ⟨m, ?_, rfl⟩) fun i hi => (hu i hi).symm)
        refine Nat.lt_of_not_le fun z => ?_
        have a1 := h2 m hm
        rcases Nat.lt_or_eq_of_le z with z | z
        · have := R.mono j m z (by omega)
          omega
        · subst z
          omega) z
    obtain ⟨t, t0, l⟩ := z2
    obtain ⟨u, hu⟩ := l.coef
    obtain ⟨B, H, _, pb⟩ := R.ex
    have hd : dtF k (fun j i => B i (P j)) ≠ 0 := by
      rw [← H.sd]
      exact H.s0
    have ker := dtF_ker (u := fun l => if l = j then t else if l < j then -u l else 0) hd (fun i hi => ?_) j hj
    · rw [if_pos rfl] at ker
      exact t0 ker
    · obtain ⟨i', h1, h2⟩ := pb i (by have := H.kh; omega)
      have e : t * A i' (P j) = sm j fun l => u l * A i' (P l) := hu i' h1
      have split : ∀ n, j < n → sm n (fun l => (if l = j then t else if l < j then -u l else 0) * B i (P l)) = t * B i (P j) - sm j fun l => u l * B i (P l) := fun n => by
        induction n with
        | zero => intro h; omega
        | succ n ih =>
          intro hn
          rw [sm_succ]
          by_cases y : j = n
          · subst y
            rw [if_pos rfl]
            have e2 : (sm j fun l => (if l = j then t else if l < j then -u l else 0) * B i (P l)) = (-1) * sm j fun l => u l * B i (P l) := by
              rw [← sm_mul]
              exact sm_congr fun l hl => by
                rw [if_neg (by omega), if_pos hl]
                grind
            rw [e2]
            omega
          · rw [ih (by omega), if_neg (by omega), if_neg (by omega), Int.zero_mul, Int.add_zero]
      rw [split k hj]
      have e3 : (sm j fun l => u l * B i (P l)) = sm j fun l => u l * A i' (P l) := sm_congr fun l _ => by rw [h2]
      rw [e3, h2 (P j), e]
      omega
  · intro z
    refine Classical.byContradiction fun e => z ?_
    obtain ⟨k', h1, h2, s', u, s0, hu⟩ := R.dep c hc fun j hj y => e ⟨j, hj, y⟩
    exact InQ.div s0 (InQ.congr (InQ.sum (n := k') (u := u) (v := fun m i => A i (P m)) fun m hm => InQ.mem ⟨P m, h2 m hm, rfl⟩) fun i hi => (hu i hi).symm)
/-- two ascending tellings of the same numbers -/
theorem asc_same : ∀ {k k' : Nat} {P P' : Nat → Nat}, (∀ i j, i < j → j < k → P i < P j) → (∀ i j, i < j → j < k' → P' i < P' j) → (∀ c, (∃ j, j < k ∧ P j = c) ↔ ∃ j, j < k' ∧ P' j = c) → ∀ j, (j < k ↔ j < k') ∧ (j < k → P j = P' j) := by
  intro k k' P P' m m' e j
  induction j using Nat.strongRecOn with
  | _ j ih =>
    have key : j < k → j < k' ∧ P j = P' j := fun hj => by
      obtain ⟨l, hl, el⟩ := (e (P j)).mp ⟨j, hj, rfl⟩
      have hlj : j ≤ l := Nat.le_of_not_lt fun z => by
        have q := (ih l z).2 (by have := (ih l z).1.mpr hl; exact this)
        have := m l j z hj
        omega
      refine ⟨by omega, ?_⟩
      rcases Nat.lt_or_eq_of_le hlj with z | z
      · obtain ⟨l2, hl2, el2⟩ := (e (P' j)).mpr ⟨j, by omega, rfl⟩
        have a1 := m' j l z hl
        have : l2 < j := Nat.lt_of_not_le fun y => by
          rcases Nat.lt_or_eq_of_le y with y | y
          · have := m j l2 y hl2
            omega
          · subst y
            omega
        have q := (ih l2 this).2 hl2
        have := m' l2 j this (by omega)
        omega
      · subst z
        exact el.symm
    have key' : j < k' → j < k := fun hj => by
      obtain ⟨l, hl, el⟩ := (e (P' j)).mpr ⟨j, hj, rfl⟩
      have hlj : j ≤ l := Nat.le_of_not_lt fun z => by
        have q := (ih l z).2 hl
        have := m' l j z hj
        omega
      omega
    exact ⟨⟨fun hj => (key hj).1, key'⟩, fun hj => (key hj).2⟩
/-! ### rows ahead of a row put behind it -/
def rot (k p i : Nat) : Nat := if i = k then p else if k < i ∧ i ≤ p then i - 1 else i
theorem Piv.perm {h k w : Nat} {A T : Nat → Nat → Int} {s : Int} {P : Nat → Nat} (H : Piv h A T s P k w) (σ : Nat → Nat) (lo : ∀ i, i < k → σ i = i) (hi : ∀ i, k ≤ i → i < h → k ≤ σ i ∧ σ i < h) : Piv h (fun i q => A (σ i) q) (fun i q => T (σ i) q) s P k w := by
  have kh := H.kh
  refine ⟨H.kh, H.s0, ?_, fun i q hi' hq => ?_⟩
  · rw [H.sd]
    exact dtF_congr fun j i hj hi => by rw [lo i hi]
  · by_cases z : i < k
    · have r := H.rel i q hi' hq
      show s * A (σ i) q = (sm k fun j => T (σ j) q * A (σ i) (P j)) + if k ≤ i then T (σ i) q else 0
      rw [lo i z, r]
      congr 1
      exact sm_congr fun j hj => by rw [lo j hj]
    · obtain ⟨h1, h2⟩ := hi i (by omega) hi'
      have r := H.rel (σ i) q h2 hq
      show s * A (σ i) q = (sm k fun j => T (σ j) q * A (σ i) (P j)) + if k ≤ i then T (σ i) q else 0
      rw [r, if_pos h1, if_pos (by omega)]
      congr 1
      exact sm_congr fun j hj => by rw [lo j hj]
theorem Rdc.zero {h w : Nat} {A : Nat → Nat → Int} {P : Nat → Nat} : Rdc h w 0 A P 0 A 1 := Red.zero.rdc
theorem Rdc.skip {h w n k : Nat} {A T : Nat → Nat → Int} {P : Nat → Nat} {s : Int} (R : Rdc h w n A P k T s) (hw : n < w) (z : ∀ i, k ≤ i → i < h → T i n = 0) : Rdc h w (n + 1) A P k T s := by
  refine ⟨R.ex, R.mono, fun j hj => by have := R.lt j hj; omega, fun c hc hne => ?_⟩
  by_cases e : c < n
  · exact R.dep c e hne
  · obtain rfl : c = n := by omega
    obtain ⟨B, H, p, _⟩ := R.ex
    refine ⟨k, Nat.le_refl _, R.lt, s, fun j => T j c, H.s0, fun i hi => ?_⟩
    obtain ⟨i', h1, h2⟩ := p i hi
    have r := H.rel i' c h1 hw
    have z' : (if k ≤ i' then T i' c else 0) = 0 := by
      split
      · exact z i' ‹_› h1
      · rfl
    rw [z', Int.add_zero] at r
    rw [h2 c, r]
    exact sm_congr fun j _ => by rw [h2]
theorem Rdc.rot {h w n k p : Nat} {A T : Nat → Nat → Int} {P : Nat → Nat} {s : Int} (R : Rdc h w n A P k T s) (hw : n < w) (hk : k ≤ p) (hp : p < h) (p0 : T p n ≠ 0) :
    Rdc h w (n + 1) A (fun j => if j = k then n else P j) (k + 1) (clr (fun i q => T (DL.rot k p i) q) s k n) (T p n) := by
  obtain ⟨B, H, pr, pb⟩ := R.ex
  have rk : DL.rot k p k = p := by
    unfold DL.rot
    rw [if_pos rfl]
  have rlo : ∀ i, i < k → DL.rot k p i = i := fun i hi => by
    unfold DL.rot
    rw [if_neg (by omega), if_neg (by omega)]
  have rhi : ∀ i, k ≤ i → i < h → k ≤ DL.rot k p i ∧ DL.rot k p i < h := fun i h1 h2 => by
    unfold DL.rot
    split
    · omega
    · split <;> omega
  have rsur : ∀ i, i < h → ∃ i', i' < h ∧ DL.rot k p i' = i := fun i hi => by
    by_cases e : i < k
    · exact ⟨i, hi, rlo i e⟩
    · by_cases e2 : i = p
      · exact ⟨k, by omega, by rw [rk, e2]⟩
      · by_cases e3 : i < p
        · refine ⟨i + 1, by omega, ?_⟩
          unfold DL.rot
          rw [if_neg (by omega), if_pos (by omega)]
          omega
        · refine ⟨i, hi, ?_⟩
          unfold DL.rot
          rw [if_neg (by omega), if_neg (by omega)]
  have H2 := H.perm (DL.rot k p) rlo rhi
  have H3 : Piv h (fun i q => B (DL.rot k p i) q) (fun i q => T (DL.rot k p i) q) s (fun j => if j = k then n else P j) k w := by
    refine ⟨H2.kh, H2.s0, ?_, fun i q hi hq => ?_⟩
    · rw [H2.sd]
      exact dtF_congr fun j i hj hi => by rw [if_neg (by omega)]
    · rw [H2.rel i q hi hq]
      congr 1
      exact sm_congr fun j hj => by rw [if_neg (by omega)]
  have st := H3.step (c := n) (by omega) hw (by show T (DL.rot k p k) n ≠ 0; rw [rk]; exact p0) (by show (if k = k then n else P k) = n; rw [if_pos rfl])
  rw [rk] at st
  refine ⟨⟨_, st, fun i hi => ?_, fun i hi => ?_⟩, fun i j hij hj => ?_, fun j hj => ?_, fun c hc hne => ?_⟩
  · obtain ⟨i', h1, h2⟩ := pr i hi
    obtain ⟨i2, h3, h4⟩ := rsur i' h1
    exact ⟨i2, h3, fun q => by show A i q = B (DL.rot k p i2) q; rw [h4]; exact h2 q⟩
  · have q : DL.rot k p i < h := by
      by_cases e : i < k
      · rw [rlo i e]; exact hi
      · exact (rhi i (by omega) hi).2
    exact pb _ q
  · by_cases e : j = k
    · rw [if_pos e, if_neg (by omega)]
      exact R.lt i (by omega)
    · rw [if_neg e, if_neg (by omega)]
      exact R.mono i j hij (by omega)
  · by_cases e : j = k
    · rw [if_pos e]
      omega
    · rw [if_neg e]
      have := R.lt j (by omega)
      omega
  · have e : c ≠ n := fun e => hne k (by omega) (by rw [if_pos rfl, e])
    obtain ⟨k', h1, h2, s', u, s0, hu⟩ := R.dep c (by omega) fun j hj => by
      have := hne j (by omega)
      rwa [if_neg (by omega)] at this
    have en : ∀ j, j < k' → (fun j => if j = k then n else P j) j = P j := fun j hj => if_neg (by omega)
    refine ⟨k', by omega, fun j hj => by rw [en j hj]; exact h2 j hj, s', u, s0, fun i hi => ?_⟩
    rw [hu i hi]
    exact sm_congr fun j hj => by rw [en j hj]
theorem Rdc.sz {h w n k b : Nat} {A T : Nat → Nat → Int} {P : Nat → Nat} {s : Int} (R : Rdc h w n A P k T s) (hn : n ≤ w) (hh : h ≤ 64) (sz : ∀ i q, i < h → q < w → Bd b (A i q)) : k ≤ h ∧ s ≠ 0 ∧ Bd (k * (b + 66) + 1) s ∧ ∀ i q, i < h → q < w → Bd ((k + 1) * (b + 66) + 3) (T i q) := by
  obtain ⟨B, H, _, pb⟩ := R.ex
  obtain ⟨h1, h2⟩ := H.sz hh (fun j hj => by have := R.lt j hj; omega) fun i q hi hq => by
    obtain ⟨i', h1, h2⟩ := pb i hi
    rw [h2]
    exact sz i' q h1 hq
  exact ⟨H.kh, H.s0, h1, h2⟩
end DL
set_option Elab.async false
set_option linter.all false
set_option maxRecDepth 100000
set_option maxHeartbeats 4000000
namespace K10
open PySem PySem.Spec L2 DL
open PyProof.Rows hiding St
/-! one step, by the goal's head -/

/-! comprehensions, sums, lists of others -/

/-! lists that may be written -/
local macro_rules | `(tactic| walk_at "fld_1") => `(tactic| (with_reducible refine we_fldF ?_))
local macro_rules | `(tactic| walk_at "useWe_1") => `(tactic| first
  | ((with_reducible apply we_lcs); case gk => first | exact gk_name rfl | exact gk_tup (gks_cons (gk_name rfl) (gks_cons (gk_name rfl) gks_nil)))
  | (with_reducible refine we_slPre ?_) | (with_reducible refine we_slSuf ?_) | (with_reducible refine we_app ?_) | (with_reducible refine we_mt ?_) | (with_reducible refine we_grd ?_) | (with_reducible refine we_ratQ ?_) | (with_reducible refine we_ratQ1 ?_) | fail)
local macro_rules | `(tactic| walk_at "sWe_1") => `(tactic| first
  | ((with_reducible refine we_var (d := ?d) ?hv ?hk); case hv => rfl)
  | (with_reducible first
    | refine we_cint ?_ | refine we_2 ?_ | refine we_cl0 ?_ | refine we_tup ?_ | refine we_1 ?_ | refine we_c2 ?_ | refine we_cbl ?_ | refine we_cnon ?_ | refine we_cty ?_ | refine we_cref ?_
    | refine we_op ?_ | refine we_andV ?_ | refine we_orV ?_ | refine we_notV ?_ | refine we_3 ?_ | refine we_ifx ?_ | refine we_cstr ?_ | refine we_clH ?_)
  | walk_at "fld_1"
  | walk_at "useWe_1")
local macro_rules | `(tactic| walk_at "useW2_1") => `(tactic| first
  | (with_reducible refine w2_eqRN ?_) | (with_reducible refine w2_eqLN ?_) | (with_reducible refine w2_eqLli ?_) | (with_reducible refine w2_eqLi ?_)
  | (with_reducible refine w2_ixT ⟨ix_map0 ?_, ?_⟩) | (with_reducible refine w2_ixL ⟨ix_map0 ?_, ?_⟩) | (with_reducible refine w2_ixT ⟨ix_map ?_, ?_⟩) | (with_reducible refine w2_ixL ⟨ix_map ?_, ?_⟩)
  | (with_reducible refine w2_addO (by assumption) (by decide) .fixed .fixed ?_) | (with_reducible refine w2_subO (by assumption) (by decide) .fixed .fixed ?_) | (with_reducible refine w2_mulO (by assumption) (by decide) .fixed .fixed ?_) | (with_reducible refine w1_negO (by assumption) (by decide) .fixed ?_)
  | (with_reducible refine w2_catL .lst .lst ?_ ?_) | fail)
local macro_rules | `(tactic| walk_at "sW2_1") => `(tactic| first
  | (with_reducible first
    | refine w2_add ?_ | refine w2_sub ?_ | refine w2_mul ⟨?_, ?_⟩ | refine w2_fdiv ⟨?_, ?_⟩ | refine w2_mod ⟨?_, ?_⟩ | refine w2_pow ⟨?_, ?_⟩ | refine w2_eqI ?_ | refine w2_neI ?_ | refine w2_lt ?_ | refine w2_le ?_ | refine w2_gt ?_ | refine w2_ge ?_ | refine w2_eqFI ?_ | refine w2_neFI ?_)
  | ((with_reducible refine w2_ixT (d := ?d) ⟨?hv, ?hk⟩); case hv => rfl)
  | ((with_reducible refine w2_ixL (d := ?d) ⟨?hv, ?hk⟩); case hv => rfl)
  | ((with_reducible refine w2_ixM (d := ?d) .head ⟨?hv, ?hk⟩); case hv => rfl)
  | (with_reducible first
    | refine w2_eqIH ?_ | refine w2_neIH ?_ | refine w2_mulH ⟨?_, ?_⟩ | refine w2_addH ?_ | refine w2_subH ?_ | refine w2_isN ?_ | refine w2_notN ?_ | refine w2_isB ?_ | refine w2_notB ?_)
  | walk_at "useW2_1")
local macro_rules | `(tactic| walk_at "sWa_1") => `(tactic| with_reducible first | refine wa_nil ?_ | refine wa_cons ?_)
local macro_rules | `(tactic| walk_at "useWs_1") => `(tactic| first | (with_reducible refine ws_rs0 ?_) | (with_reducible refine ws_rs ?_) | fail)
local macro_rules | `(tactic| walk_at "sWs_1") => `(tactic| first
  | (with_reducible first | refine ws_seq ?_ | refine ws_ret ?_ | refine ws_asg ?_ | refine ws_next ?_ | refine ws_drop ?_ | refine ws_par ?_ | refine ws_par3 ?_ | refine ws_fldN ?_ | refine ws_brk ?_ | refine ws_cont ?_)
  | walk_at "useWs_1")
local macro_rules | `(tactic| walk_at "sWt_1") => `(tactic| with_reducible first | refine wt_test ?_ | refine wt_tr ?_ | refine wt_and ?_ | refine wt_or ?_ | refine wt_not ?_)
local macro_rules | `(tactic| walk_at "useWc_1") => `(tactic| first
  | (with_reducible refine wc_len (LstM.len (by assumption)) ?_) | (with_reducible refine wc_len (SeqM.len (by assumption)) ?_) | (with_reducible refine wc_sumG ?_) | (with_reducible refine wc_sumI ?_) | (with_reducible refine wc_tupleL .tup ?_) | (with_reducible refine wc_tupleL .lst ?_) | (with_reducible refine wc_listF .tup ?_) | (with_reducible refine wc_listF .lst ?_) | fail)
local macro_rules | `(tactic| walk_at "sWc_1") => `(tactic| first
  | (with_reducible first | refine wc_int ?_ | refine wc_abs ?_ | refine wc_min ?_ | refine wc_gcd ?_ | refine wc_isiT .int kit_ii ?_ | refine wc_isiT .int kit_ib ?_ | refine wc_len .lst ?_ | refine wc_len .tup ?_ | refine wc_strI ?_ ?_)
  | walk_at "useWc_1")
local macro_rules | `(tactic| walk_at "sWi_1") => `(tactic| with_reducible first | refine wi_seq ?_ | refine wi_rng1S ?_ | refine wi_rng2 ?_ | refine wi_zipM ?_)
local macro_rules | `(tactic| walk_at "sWg_1") => `(tactic| with_reducible first | refine wg_name ?_ | refine wg_subM ?_ | refine wg_tup rfl ?_)
local macro_rules | `(tactic| walk_at "sW1_1") => `(tactic| first | (with_reducible refine w1_neg ?_) | walk_at "useW2_1")
local macro_rules | `(tactic| walk_at "sWgs_1") => `(tactic| with_reducible first | refine wgs_cons ?_ | refine wgs_nil ?_)
local macro_rules | `(tactic| walk_at "sS_1") => `(tactic| first | (with_reducible refine SlA.mk ?_ ?_) | (with_reducible refine RngA.mk ?_ ?_) | (with_reducible refine LcS.mk ?_ (fun a ha q => ?_) ?_) | (with_reducible exact LcL.mk rfl rfl) | fail)
local macro_rules | `(tactic| walk_at "sq_1") => `(tactic| first | assumption | exact SeqM.cons (by assumption) | exact SeqM.cons (SeqM.cons (by assumption)))
local macro_rules | `(tactic| walk_at "lst_1") => `(tactic| first
  | (with_reducible refine ⟨_, _, rfl, .head, ?_⟩) | (with_reducible refine ⟨_, _, _, rfl, .head, ?_, .head, ?_⟩) | (with_reducible refine ⟨_, _, .tup, ?_⟩) | (with_reducible refine ⟨_, _, .lst, ?_⟩) | (with_reducible refine ⟨_, _, (by walk_at "sq_1"), ?_⟩)
  | (with_reducible refine ⟨_, _, _, _, _, _, _, _, _, _, rfl, .tup, .tup, ?_⟩) | (with_reducible refine ⟨_, _, _, _, _, _, _, _, _, _, rfl, .tup, .lst, ?_⟩) | (with_reducible refine ⟨_, _, _, _, _, _, _, _, _, _, rfl, .tup, (by walk_at "sq_1"), ?_⟩) | (with_reducible refine ⟨_, _, _, _, _, _, _, _, _, _, rfl, .lst, .tup, ?_⟩) | (with_reducible refine ⟨_, _, _, _, _, _, _, _, _, _, rfl, .lst, .lst, ?_⟩) | (with_reducible refine ⟨_, _, _, _, _, _, _, _, _, _, rfl, .lst, (by walk_at "sq_1"), ?_⟩) | (with_reducible refine ⟨_, _, _, _, _, _, _, _, _, _, rfl, (by walk_at "sq_1"), .tup, ?_⟩) | (with_reducible refine ⟨_, _, _, _, _, _, _, _, _, _, rfl, (by walk_at "sq_1"), .lst, ?_⟩) | (with_reducible refine ⟨_, _, _, _, _, _, _, _, _, _, rfl, (by walk_at "sq_1"), (by walk_at "sq_1"), ?_⟩) | fail)
local macro_rules | `(tactic| walk_at "use_1") => `(tactic| first | walk_at "lst_1" | fail)
local macro_rules | `(tactic| walk_at "sX_1") => `(tactic| first
  | (with_reducible refine ⟨_, rfl, ?_⟩)
  | (with_reducible refine fld_top (by assumption) ?_) | (with_reducible refine fld_bottom (by assumption) ?_)
  | (with_reducible refine ⟨_, .bl, ?_⟩)
  | ((with_reducible refine ⟨?h, ?_⟩); case h => rfl)
  | (with_reducible refine ⟨_, _, rfl, ?_⟩)
  | (with_reducible refine ⟨_, _, _, rfl, ?_⟩)
  | walk_at "use_1"
  | (with_reducible refine setN_top (by assumption) ?_) | (with_reducible refine setN_bottom (by assumption) ?_)
  | ((with_reducible refine ⟨_, _, _, ?j, _, rfl, rfl, .head, ?h, .head, ?_⟩); case h => rfl)
  | fail)
local macro_rules | `(tactic| walk_at "st_1") => `(tactic| first
  | ((with_reducible show We _ _ _ _ _ _); walk_at "sWe_1")
  | ((with_reducible show W2 _ _ _ _ _ _ _ _); walk_at "sW2_1")
  | ((with_reducible show Wa _ _ _ _ _ _); walk_at "sWa_1")
  | ((with_reducible show Ws _ _ _ _ _ _); walk_at "sWs_1")
  | ((with_reducible show Wt _ _ _ _ _ _); walk_at "sWt_1")
  | ((with_reducible show Wc _ _ _ _ _ _ _); walk_at "sWc_1")
  | ((with_reducible show Wi _ _ _ _ _ _); walk_at "sWi_1")
  | ((with_reducible show Wg _ _ _ _ _ _ _); walk_at "sWg_1")
  | ((with_reducible show W1 _ _ _ _ _ _ _); walk_at "sW1_1")
  | ((with_reducible show Wgs _ _ _ _ _ _ _); walk_at "sWgs_1")
  | walk_at "sS_1" | walk_at "sX_1" | fail)
local macro_rules | `(tactic| walk_at "br_1") => `(tactic| ((with_reducible refine ⟨fun hb => ?_, fun hb => ?_⟩) <;> (try simp only [decide_eq_true_eq, decide_eq_false_iff_not, Bool.not_eq_true', Bool.not_eq_false', Bool.and_eq_true, Bool.or_eq_true, reduceCtorEq, List.length_map, Bool.not_true, Bool.not_false, DL.isNon, not_true_eq_false, not_false_eq_true, Classical.not_not, List.all_cons, List.all_nil, id_eq, Bool.and_self, Bool.true_and, decide_true, decide_false] at hb)))
local macro_rules | `(tactic| walk_at "gn_1") => `(tactic| repeat' (first | walk_at "st_1" | walk_at "br_1" | fail))

section
variable {G : Gx} {C_Ratio C_Grid C_BadShape C_BadPlace C_CarryError : Addr}
/-! the program's elimination -/
def S_ffil : SpecD := fun ds m K _ => ∃ (dt : D) (h w k c : Nat) (T : Nat → Nat → Int), ds = [dt, .int (k : Nat), .int (c : Nat)] ∧ LstM dt m ((tabR h w T).map li) ∧ k ≤ h ∧ c < w ∧ h ≤ 1000 ∧ ((∀ i, k ≤ i → i < h → T i c = 0) → K .non m) ∧ (∀ p, k ≤ p → p < h → T p c ≠ 0 → K (.int (p : Nat)) m)
theorem use_ffil {dt : D} {h w k c : Nat} {T : Nat → Nat → Int} {m : Mu} {K : KT} {E : Ex → Mu → Prop} (l : LstM dt m ((tabR h w T).map li)) (hk : k ≤ h) (hc : c < w) (hh : h ≤ 1000) (k0 : (∀ i, k ≤ i → i < h → T i c = 0) → K .non m) (k1 : ∀ p, k ≤ p → p < h → T p c ≠ 0 → K (.int (p : Nat)) m) : S_ffil [dt, .int (k : Nat), .int (c : Nat)] m K E := ⟨dt, h, w, k, c, T, rfl, l, hk, hc, hh, k0, k1⟩
theorem ok_ffil (T : Txt G C_Ratio C_Grid C_BadShape C_BadPlace C_CarryError) {f : Addr} {fd : FuncData} (F : L2.Fun G.K "_first_filled" "_first_filled" s__first_filled f fd) (b : L2.Binds G.K fd ["table", "start", "column"] []) : Fnx G 1 f 3 S_ffil [] := by
  refine fnx_of F sc__first_filled rfl b .nil rfl (fun cdv A outer s H FF hr tk => ⟨_, (pss_cons (ps_for (passes_of rfl) rfl (pi_range2 rfl T.n_range (pa_cons (pe_var (i := 1) rfl (Or.inl rfl) nd_start.1 nd_start.2) (pa_cons (pe_cb cs_len rfl T.n_len bt_len (pa_cons (pe_var (i := 0) rfl (Or.inl rfl) nd_table.1 nd_table.2) pa_nil)) pa_nil))) (pg_name (i := 3) sc__first_filled.nd rfl (Or.inl rfl)) (pss_one (ps_if (pt_cm (os_neF hr tk) (pe_ix ix_seq (pe_ix ix_seq (pe_var (i := 0) rfl (Or.inl rfl) nd_table.1 nd_table.2) (pe_var (i := 3) rfl (Or.inl rfl) nd_place.1 nd_place.2) (fun _ _ => rfl)) (pe_var (i := 2) rfl (Or.inl rfl) nd_column.1 nd_column.2) (fun _ _ => rfl)) pe_int (nomark _)) (pss_one (ps_ret (pe_var (i := 3) rfl (Or.inl rfl) nd_place.1 nd_place.2))) pss_nil))) (pss_one (ps_ret pe_non))), ?_⟩)
  rintro ds m K E - ⟨dt, h, w, k, c, t, rfl, l, hk, hc, hh, k0, k1⟩
  show Ws _ _ _ [some dt, some (.int (k : Nat)), some (.int (c : Nat)), none] _ _
  try dsimp only [cx_G, cx_K]
  have hl : ((((tabR h w t).map li).length : Nat) : Int) = (h : Int) := by rw [List.length_map, tabR_len]
  refine ws_seq (ws_range2 ?_)
  walk_at "gn_1"
  rw [hl]
  refine ⟨_, _, fun i r' m' => m' = m ∧ (∀ j, k ≤ j → j < k + i → t j c = 0) ∧ ∃ o, r' = [some dt, some (.int (k : Nat)), some (.int (c : Nat)), o], rfl, by omega, ⟨rfl, fun j h1 h2 => by omega, none, rfl⟩, ?_, ?_⟩
  · rintro i r' m' hi ⟨rfl, z, o, rfl⟩
    rw [show ((k : Int) + (i : Int)) = ((k + i : Nat) : Int) from rfl]
    have hi' : k + i < h := by omega
    walk_at "gn_1"
    refine ws_if ?_
    walk_at "gn_1"
    refine w2_ixLst l ⟨atI_get (tabR_at hi'), ?_⟩
    walk_at "gn_1"
    all_goals try first | (rw [List.length_range]; exact hc) | (rw [List.length_map, List.length_range]; exact hc)
    · rename_i hb
      rw [range_at' hc] at hb
      exact k1 (k + i) (by omega) hi' hb
    · rename_i hb
      rw [range_at' hc] at hb
      refine ⟨fun j h1 h2 => ?_, _, rfl⟩
      by_cases e : j = k + i
      · rw [e]
        exact hb
      · exact z j h1 (by omega)
  · rintro r' m' ⟨rfl, z, o, rfl⟩
    walk_at "gn_1"
    exact k0 fun i h1 h2 => z i h1 (by omega)
def S_clrd : SpecD := fun ds m K _ => ∃ (w c : Nat) (f g : Nat → Int) (s : Int), ds = [li ((List.range w).map f), li ((List.range w).map g), .int (c : Nat), .int s] ∧ c < w ∧ w ≤ 1000 ∧ s ≠ 0 ∧ Bd 8000 s ∧ (∀ q, q < w → Bd 8000 (f q)) ∧ (∀ q, q < w → Bd 8000 (g q)) ∧ K (li ((List.range w).map fun q => (g c * f q - f c * g q).fdiv s)) m
theorem use_clrd {w c : Nat} {f g : Nat → Int} {s : Int} {m : Mu} {K : KT} {E : Ex → Mu → Prop} (hc : c < w) (hw : w ≤ 1000) (s0 : s ≠ 0) (sb : Bd 8000 s) (fb : ∀ q, q < w → Bd 8000 (f q)) (gb : ∀ q, q < w → Bd 8000 (g q)) (k : K (li ((List.range w).map fun q => (g c * f q - f c * g q).fdiv s)) m) : S_clrd [li ((List.range w).map f), li ((List.range w).map g), .int (c : Nat), .int s] m K E := ⟨w, c, f, g, s, rfl, hc, hw, s0, sb, fb, gb, k⟩
theorem zip_ran {w : Nat} {f g : Nat → Int} : ((List.range w).map f).zip ((List.range w).map g) = (List.range w).map fun q => (f q, g q) := by
  rw [List.zip_map, List.zip_eq_zipWith, List.zipWith_self, List.map_map]
  rfl
theorem ok_clrd (T : Txt G C_Ratio C_Grid C_BadShape C_BadPlace C_CarryError) {f : Addr} {fd : FuncData} (F : L2.Fun G.K "_cleared" "_cleared" s__cleared f fd) (b : L2.Binds G.K fd ["row", "head", "column", "divisor"] []) : Fnx G 1 f 4 S_clrd [] := by
  refine fnx_of F sc__cleared rfl b .nil rfl (fun cdv A outer s H FF hr tk => ⟨_, (pss_cons (ps_set (i := 4) sc__cleared.nd rfl (Or.inr rfl) (pe_ix ix_seq (pe_var (i := 1) rfl (Or.inl rfl) nd_head.1 nd_head.2) (pe_var (i := 2) rfl (Or.inl rfl) nd_column.1 nd_column.2) (fun _ _ => rfl))) (pss_cons (ps_set (i := 5) sc__cleared.nd rfl (Or.inr rfl) (pe_ix ix_seq (pe_var (i := 0) rfl (Or.inl rfl) nd_row.1 nd_row.2) (pe_var (i := 2) rfl (Or.inl rfl) nd_column.1 nd_column.2) (fun _ _ => rfl))) (pss_one (ps_ret (pe_lc (own := [("x", 6), ("y", 7)]) (g := (gTup G.K 2 (gCons (gName 6) (gCons (gName 7) gNil)))) (tt := tYes) rfl sc__cleared.nd (pi_zipK (KK := G.K) (by rfl) rfl T.n_zip (pa_cons (pe_var (i := 0) rfl (Or.inl rfl) nd_row.1 nd_row.2) (pa_cons (pe_var (i := 1) rfl (Or.inl rfl) nd_head.1 nd_head.2) pa_nil))) (blkOk_by (N := N__cleared) (sc := (defScope s__cleared)) (by decide +kernel)) (fun _ _ _ _ _ => (pg_tupK (KK := G.K) (by rfl) rfl (pgs_cons (pg_name (i := 6) sc__cleared.nd rfl (Or.inl rfl)) (pgs_cons (pg_name (i := 7) sc__cleared.nd rfl (Or.inl rfl)) pgs_nil)))) (fun _ _ _ _ _ => pts_nil) (fun _ _ _ _ _ => (pe_bin os_fdiv (pe_bin (o := oSub G _ wNo) (os_sub (by exact hr) takes0N) (pe_bin (o := oMul G _ wNo) (os_mul (by exact hr) takes0N) (pe_var (i := 4) rfl (Or.inr (Or.inl rfl)) nd_pivot.1 nd_pivot.2) (pe_var (i := 6) rfl (Or.inl rfl) nd_x.1 nd_x.2)) (pe_bin (o := oMul G _ wNo) (os_mul (by exact hr) takes0N) (pe_var (i := 5) rfl (Or.inr (Or.inl rfl)) nd_multiple.1 nd_multiple.2) (pe_var (i := 7) rfl (Or.inl rfl) nd_y.1 nd_y.2))) (pe_var (i := 3) rfl (Or.inr (Or.inl rfl)) nd_divisor.1 nd_divisor.2)))))))), ?_⟩)
  rintro ds m K E - ⟨w, c, f, g, s, rfl, hc, hw, s0, sb, fb, gb, k⟩
  show Ws _ _ _ [some (li ((List.range w).map f)), some (li ((List.range w).map g)), some (.int (c : Nat)), some (.int s), none, none, none, none] _ _
  try dsimp only [cx_G, cx_K]
  have ec : ∀ f : Nat → Int, ((List.range w).map f)[c]! = f c := fun f => range_at' hc
  have hz : ∀ a ∈ ((List.range w).map f).zip ((List.range w).map g), Bd 8000 a.1 ∧ Bd 8000 a.2 := fun a ha => by
    rw [zip_ran] at ha
    obtain ⟨q, hq, rfl⟩ := List.mem_map.mp ha
    exact ⟨fb q (List.mem_range.mp hq), gb q (List.mem_range.mp hq)⟩
  walk_at "gn_1"
  all_goals try first
    | (rw [List.length_map, List.length_range]; exact hc)
    | exact Nat.ble_eq_true_of_le (by rw [List.length_zip, List.length_map, List.length_map, List.length_range]; omega)
    | (rw [ec]; exact (gb c hc).mulX (hz _ ‹_›).1 (by decide))
    | (rw [ec]; exact (fb c hc).mulX (hz _ ‹_›).2 (by decide))
    | exact sb.divX s0 (by decide)
  rw [ec, ec, zip_ran]
  have e : li ((List.range w).map fun q => (g c * f q - f c * g q).fdiv s) = .lst (((List.range w).map fun q => (f q, g q)).map fun a => .int ((g c * a.1 - f c * a.2).fdiv s)) := by
    show D.lst (List.map D.int (List.map _ _)) = _
    rw [List.map_map, List.map_map]
    rfl
  rw [e] at k
  exact k
structure ReA (h w n : Nat) (A : Nat → Nat → Int) (b : Nat) : Prop where
  hh : h ≤ 64
  hw : w ≤ 200
  nw : n ≤ w
  bb : b ≤ 40
  sz : ∀ i q, i < h → q < w → Bd b (A i q)
def S_redu : SpecD := fun ds m K _ => ∃ (d : D) (h w n : Nat) (A : Nat → Nat → Int) (b : Nat), ds = [d, .int (n : Nat)] ∧ (d = lli (tabR h w A) ∨ d = tti (tabR h w A)) ∧ ReA h w n A b ∧
  ∀ P k T s, Red h w n A P k T s → K (.tup [li ((List.range k).map fun j => (P j : Int)), lli (tabR k w T), .int s]) m
theorem use_redu {d : D} {h w n b : Nat} {A : Nat → Nat → Int} {m : Mu} {K : KT} {E : Ex → Mu → Prop} (hd : d = lli (tabR h w A) ∨ d = tti (tabR h w A)) (ra : ReA h w n A b)
    (k : ∀ P k T s, Red h w n A P k T s → K (.tup [li ((List.range k).map fun j => (P j : Int)), lli (tabR k w T), .int s]) m) : S_redu [d, .int (n : Nat)] m K E := ⟨d, h, w, n, A, b, rfl, hd, ra, k⟩
theorem we_copyL {G : Gx} {W : WX} {E : ET} {r : Rho} {m : Mu} {K : KT} {s i : Nat} {vs : List Nat} {rows : List (List Int)} {d : D} (hd : d = lli rows ∨ d = tti rows) (hv : vs = [i]) (hs : r[s]? = some (some d)) (hi : i < r.length) (hl : rows.length ≤ 1000)
    (k : ∀ t, ¬ dom m t → K (.ref t) ((t, .lst (rows.map li)) :: m)) :
    We W E (tLc (iSeq G.K (tVar s)) (gName i) tYes (tC2 (cListF G) (tCons (tVar i) tNil)) vs) r m K := by
  subst hv
  have bl : Nat.ble rows.length 100000 = true := Nat.ble_eq_true_of_le (by omega)
  rcases hd with rfl | rfl
  · refine we_lcM (α := List Int) (fun a => li a) li (gk_name (by simp)) (wi_seq (we_var hs ⟨[], _, .lst, rows, rfl, bl, fun a _ q => wg_name ?_, k⟩))
    refine we_c2 (wa_cons (we_var (d := li a) ?_ (wa_nil (wc_listF .lst ⟨rfl, rfl⟩))))
    show ((r.set i none).set i (some (li a)))[i]? = _
    simp [hi]
  · refine we_lcM (α := List Int) (fun a => tup a) li (gk_name (by simp)) (wi_seq (we_var hs ⟨[], _, .tup, rows, rfl, bl, fun a _ q => wg_name ?_, k⟩))
    refine we_c2 (wa_cons (we_var (d := tup a) ?_ (wa_nil (wc_listF .tup ⟨rfl, rfl⟩))))
    show ((r.set i none).set i (some (tup a)))[i]? = _
    simp [hi]
local macro_rules | `(tactic| walk_at "fld_2") => `(tactic| (with_reducible refine we_fldF ?_))
local macro_rules | `(tactic| walk_at "useWe_2") => `(tactic| first | (with_reducible refine we_app ?_) | fail)
local macro_rules | `(tactic| walk_at "sWe_2") => `(tactic| first
  | ((with_reducible refine we_var (d := ?d) ?hv ?hk); case hv => rfl)
  | (with_reducible first
    | refine we_cint ?_ | refine we_2 ?_ | refine we_cl0 ?_ | refine we_tup ?_ | refine we_1 ?_ | refine we_c2 ?_ | refine we_cbl ?_ | refine we_cnon ?_ | refine we_cty ?_ | refine we_cref ?_
    | refine we_op ?_ | refine we_andV ?_ | refine we_orV ?_ | refine we_notV ?_ | refine we_3 ?_ | refine we_ifx ?_ | refine we_cstr ?_ | refine we_clH ?_)
  | walk_at "fld_2"
  | walk_at "useWe_2")
local macro_rules | `(tactic| walk_at "useW2_2") => `(tactic| first
  | (with_reducible refine w2_eqRN ?_) | (with_reducible refine w2_eqLN ?_) | (with_reducible refine w2_eqLli ?_) | (with_reducible refine w2_eqLi ?_)
  | (with_reducible refine w2_ixT ⟨ix_map0 ?_, ?_⟩) | (with_reducible refine w2_ixL ⟨ix_map0 ?_, ?_⟩) | (with_reducible refine w2_ixT ⟨ix_map ?_, ?_⟩) | (with_reducible refine w2_ixL ⟨ix_map ?_, ?_⟩)
  | (with_reducible refine w2_addO (by assumption) (by decide) .fixed .fixed ?_) | (with_reducible refine w2_subO (by assumption) (by decide) .fixed .fixed ?_) | (with_reducible refine w2_mulO (by assumption) (by decide) .fixed .fixed ?_) | (with_reducible refine w1_negO (by assumption) (by decide) .fixed ?_)
  | (with_reducible refine w2_catL .lst .lst ?_ ?_) | fail)
local macro_rules | `(tactic| walk_at "sW2_2") => `(tactic| first
  | (with_reducible first
    | refine w2_add ?_ | refine w2_sub ?_ | refine w2_mul ⟨?_, ?_⟩ | refine w2_fdiv ⟨?_, ?_⟩ | refine w2_mod ⟨?_, ?_⟩ | refine w2_pow ⟨?_, ?_⟩ | refine w2_eqI ?_ | refine w2_neI ?_ | refine w2_lt ?_ | refine w2_le ?_ | refine w2_gt ?_ | refine w2_ge ?_ | refine w2_eqFI ?_ | refine w2_neFI ?_)
  | ((with_reducible refine w2_ixT (d := ?d) ⟨?hv, ?hk⟩); case hv => rfl)
  | ((with_reducible refine w2_ixL (d := ?d) ⟨?hv, ?hk⟩); case hv => rfl)
  | ((with_reducible refine w2_ixM (d := ?d) .head ⟨?hv, ?hk⟩); case hv => rfl)
  | (with_reducible first
    | refine w2_eqIH ?_ | refine w2_neIH ?_ | refine w2_mulH ⟨?_, ?_⟩ | refine w2_addH ?_ | refine w2_subH ?_ | refine w2_isN ?_ | refine w2_notN ?_ | refine w2_isB ?_ | refine w2_notB ?_)
  | walk_at "useW2_2")
local macro_rules | `(tactic| walk_at "sWa_2") => `(tactic| with_reducible first | refine wa_nil ?_ | refine wa_cons ?_)
local macro_rules | `(tactic| walk_at "useWs_2") => `(tactic| first | (with_reducible refine ws_rs0 ?_) | (with_reducible refine ws_rs ?_) | fail)
local macro_rules | `(tactic| walk_at "sWs_2") => `(tactic| first
  | (with_reducible first | refine ws_seq ?_ | refine ws_ret ?_ | refine ws_asg ?_ | refine ws_next ?_ | refine ws_drop ?_ | refine ws_par ?_ | refine ws_par3 ?_ | refine ws_fldN ?_ | refine ws_brk ?_ | refine ws_cont ?_)
  | walk_at "useWs_2")
local macro_rules | `(tactic| walk_at "sWt_2") => `(tactic| with_reducible first | refine wt_test ?_ | refine wt_tr ?_ | refine wt_and ?_ | refine wt_or ?_ | refine wt_not ?_)
local macro_rules | `(tactic| walk_at "useWc_2") => `(tactic| first
  | (with_reducible refine wc_len (LstM.len (by assumption)) ?_) | (with_reducible refine wc_len (SeqM.len (by assumption)) ?_) | (with_reducible refine wc_sumG ?_) | (with_reducible refine wc_sumI ?_) | (with_reducible refine wc_tupleL .tup ?_) | (with_reducible refine wc_tupleL .lst ?_) | (with_reducible refine wc_listF .tup ?_) | (with_reducible refine wc_listF .lst ?_) | fail)
local macro_rules | `(tactic| walk_at "sWc_2") => `(tactic| first
  | (with_reducible first | refine wc_int ?_ | refine wc_abs ?_ | refine wc_min ?_ | refine wc_gcd ?_ | refine wc_isiT .int kit_ii ?_ | refine wc_isiT .int kit_ib ?_ | refine wc_len .lst ?_ | refine wc_len .tup ?_ | refine wc_strI ?_ ?_)
  | walk_at "useWc_2")
local macro_rules | `(tactic| walk_at "sWi_2") => `(tactic| with_reducible first | refine wi_seq ?_ | refine wi_rng1S ?_ | refine wi_rng2 ?_ | refine wi_zipM ?_)
local macro_rules | `(tactic| walk_at "sWg_2") => `(tactic| with_reducible first | refine wg_name ?_ | refine wg_subM ?_ | refine wg_tup rfl ?_)
local macro_rules | `(tactic| walk_at "sW1_2") => `(tactic| first | (with_reducible refine w1_neg ?_) | walk_at "useW2_2")
local macro_rules | `(tactic| walk_at "sWgs_2") => `(tactic| with_reducible first | refine wgs_cons ?_ | refine wgs_nil ?_)
local macro_rules | `(tactic| walk_at "sS_2") => `(tactic| first | (with_reducible refine SlA.mk ?_ ?_) | (with_reducible refine RngA.mk ?_ ?_) | (with_reducible refine LcS.mk ?_ (fun a ha q => ?_) ?_) | (with_reducible exact LcL.mk rfl rfl) | fail)
local macro_rules | `(tactic| walk_at "sq_2") => `(tactic| first | assumption | exact SeqM.cons (by assumption) | exact SeqM.cons (SeqM.cons (by assumption)))
local macro_rules | `(tactic| walk_at "lst_2") => `(tactic| first
  | (with_reducible refine ⟨_, _, rfl, .head, ?_⟩) | (with_reducible refine ⟨_, _, _, rfl, .head, ?_, .head, ?_⟩) | (with_reducible refine ⟨_, _, .tup, ?_⟩) | (with_reducible refine ⟨_, _, .lst, ?_⟩) | (with_reducible refine ⟨_, _, (by walk_at "sq_2"), ?_⟩)
  | (with_reducible refine ⟨_, _, _, _, _, _, _, _, _, _, rfl, .tup, .tup, ?_⟩) | (with_reducible refine ⟨_, _, _, _, _, _, _, _, _, _, rfl, .tup, .lst, ?_⟩) | (with_reducible refine ⟨_, _, _, _, _, _, _, _, _, _, rfl, .tup, (by walk_at "sq_2"), ?_⟩) | (with_reducible refine ⟨_, _, _, _, _, _, _, _, _, _, rfl, .lst, .tup, ?_⟩) | (with_reducible refine ⟨_, _, _, _, _, _, _, _, _, _, rfl, .lst, .lst, ?_⟩) | (with_reducible refine ⟨_, _, _, _, _, _, _, _, _, _, rfl, .lst, (by walk_at "sq_2"), ?_⟩) | (with_reducible refine ⟨_, _, _, _, _, _, _, _, _, _, rfl, (by walk_at "sq_2"), .tup, ?_⟩) | (with_reducible refine ⟨_, _, _, _, _, _, _, _, _, _, rfl, (by walk_at "sq_2"), .lst, ?_⟩) | (with_reducible refine ⟨_, _, _, _, _, _, _, _, _, _, rfl, (by walk_at "sq_2"), (by walk_at "sq_2"), ?_⟩) | fail)
local macro_rules | `(tactic| walk_at "use_2") => `(tactic| first | walk_at "lst_2" | fail)
local macro_rules | `(tactic| walk_at "sX_2") => `(tactic| first
  | (with_reducible refine ⟨_, rfl, ?_⟩)
  | (with_reducible refine fld_top (by assumption) ?_) | (with_reducible refine fld_bottom (by assumption) ?_)
  | (with_reducible refine ⟨_, .bl, ?_⟩)
  | ((with_reducible refine ⟨?h, ?_⟩); case h => rfl)
  | (with_reducible refine ⟨_, _, rfl, ?_⟩)
  | (with_reducible refine ⟨_, _, _, rfl, ?_⟩)
  | walk_at "use_2"
  | (with_reducible refine setN_top (by assumption) ?_) | (with_reducible refine setN_bottom (by assumption) ?_)
  | ((with_reducible refine ⟨_, _, _, ?j, _, rfl, rfl, .head, ?h, .head, ?_⟩); case h => rfl)
  | fail)
local macro_rules | `(tactic| walk_at "st_2") => `(tactic| first
  | ((with_reducible show We _ _ _ _ _ _); walk_at "sWe_2")
  | ((with_reducible show W2 _ _ _ _ _ _ _ _); walk_at "sW2_2")
  | ((with_reducible show Wa _ _ _ _ _ _); walk_at "sWa_2")
  | ((with_reducible show Ws _ _ _ _ _ _); walk_at "sWs_2")
  | ((with_reducible show Wt _ _ _ _ _ _); walk_at "sWt_2")
  | ((with_reducible show Wc _ _ _ _ _ _ _); walk_at "sWc_2")
  | ((with_reducible show Wi _ _ _ _ _ _); walk_at "sWi_2")
  | ((with_reducible show Wg _ _ _ _ _ _ _); walk_at "sWg_2")
  | ((with_reducible show W1 _ _ _ _ _ _ _); walk_at "sW1_2")
  | ((with_reducible show Wgs _ _ _ _ _ _ _); walk_at "sWgs_2")
  | walk_at "sS_2" | walk_at "sX_2" | fail)
local macro_rules | `(tactic| walk_at "br_2") => `(tactic| ((with_reducible refine ⟨fun hb => ?_, fun hb => ?_⟩) <;> (try simp only [decide_eq_true_eq, decide_eq_false_iff_not, Bool.not_eq_true', Bool.not_eq_false', Bool.and_eq_true, Bool.or_eq_true, reduceCtorEq, List.length_map, Bool.not_true, Bool.not_false, DL.isNon, not_true_eq_false, not_false_eq_true, Classical.not_not, List.all_cons, List.all_nil, id_eq, Bool.and_self, Bool.true_and, decide_true, decide_false] at hb)))
local macro_rules | `(tactic| walk_at "gn_2") => `(tactic| repeat' (first | walk_at "st_2" | walk_at "br_2" | fail))
local macro_rules | `(tactic| walk_at "wif_2") => `(tactic| (with_reducible refine ws_if ?_))
local macro_rules | `(tactic| walk_at "go_2") => `(tactic| repeat' (first | walk_at "st_2" | walk_at "wif_2" | walk_at "br_2" | fail))
theorem ok_redu (T : Txt G C_Ratio C_Grid C_BadShape C_BadPlace C_CarryError) (c__first_filled : Cal G 1 "_first_filled" 3 S_ffil []) (c__cleared : Cal G 1 "_cleared" 4 S_clrd []) {f : Addr} {fd : FuncData} (F : L2.Fun G.K "reduced" "reduced" s_reduced f fd) (b : L2.Binds G.K fd ["rows", "width"] []) : Fnx G 2 f 2 S_redu [] := by
  refine fnx_of F sc_reduced rfl b .nil rfl (fun cdv A outer s H FF hr tk => ⟨_, (pss_cons (ps_setLc (i := 2) (own := [("row", 3)]) (g := (gName 3)) (tt := tYes) rfl sc_reduced.nd rfl rfl (sw_true rfl rfl rfl (by decide +kernel)) (pi_seqK (KK := G.K) (by rfl) (pe_var (i := 0) rfl (Or.inl rfl) nd_rows.1 nd_rows.2)) (blkOk_by (N := N_reduced) (sc := (defScope s_reduced)) (by decide +kernel)) (fun _ _ _ _ _ => (pg_name (i := 3) sc_reduced.nd rfl (Or.inl rfl))) (fun _ _ _ _ _ => pts_nil) (fun _ _ _ _ _ => (pe_ct (oc := cListF G) cs_list rfl T.n_list bt_list (pa_cons (pe_var (i := 3) rfl (Or.inl rfl) nd_row.1 nd_row.2) pa_nil)))) (pss_cons (ps_set (i := 4) sc_reduced.nd rfl (Or.inl rfl) (pe_lst pa_nil)) (pss_cons (ps_set (i := 5) sc_reduced.nd rfl (Or.inl rfl) pe_int) (pss_cons (ps_for (passes_of rfl) rfl (pi_range1 rfl T.n_range (pa_cons (pe_var (i := 1) rfl (Or.inl rfl) nd_width.1 nd_width.2) pa_nil)) (pg_name (i := 6) sc_reduced.nd rfl (Or.inl rfl)) (pss_cons (ps_set (i := 7) sc_reduced.nd rfl (Or.inl rfl) (pe_cb cs_len rfl T.n_len bt_len (pa_cons (pe_var (i := 4) rfl (Or.inl rfl) nd_pivots.1 nd_pivots.2) pa_nil))) (pss_cons (ps_set (i := 8) sc_reduced.nd rfl (Or.inl rfl) (pe_cl c__first_filled hr (by decide) tk rfl (pa_cons (pe_var (i := 2) rfl (Or.inl rfl) nd_table.1 nd_table.2) (pa_cons (pe_var (i := 7) rfl (Or.inl rfl) nd_done.1 nd_done.2) (pa_cons (pe_var (i := 6) rfl (Or.inl rfl) nd_column.1 nd_column.2) pa_nil))))) (pss_cons (ps_if (pt_cm os_is (pe_var (i := 8) rfl (Or.inl rfl) nd_place.1 nd_place.2) pe_non (nomark _)) (pss_one ps_continue) pss_nil) (pss_cons (ps_asg (pe_tup (pa_cons (pe_ix ix_seq (pe_var (i := 2) rfl (Or.inl rfl) nd_table.1 nd_table.2) (pe_var (i := 8) rfl (Or.inl rfl) nd_place.1 nd_place.2) (fun _ _ => rfl)) (pa_cons (pe_ix ix_seq (pe_var (i := 2) rfl (Or.inl rfl) nd_table.1 nd_table.2) (pe_var (i := 7) rfl (Or.inl rfl) nd_done.1 nd_done.2) (fun _ _ => rfl)) pa_nil))) (pg_tup rfl (pgs_cons (pg_sub (pe_var (i := 2) rfl (Or.inl rfl) nd_table.1 nd_table.2) (pe_var (i := 7) rfl (Or.inl rfl) nd_done.1 nd_done.2) set_list) (pgs_cons (pg_sub (pe_var (i := 2) rfl (Or.inl rfl) nd_table.1 nd_table.2) (pe_var (i := 8) rfl (Or.inl rfl) nd_place.1 nd_place.2) set_list) pgs_nil)))) (pss_cons (ps_set (i := 9) sc_reduced.nd rfl (Or.inl rfl) (pe_ix ix_seq (pe_var (i := 2) rfl (Or.inl rfl) nd_table.1 nd_table.2) (pe_var (i := 7) rfl (Or.inl rfl) nd_done.1 nd_done.2) (fun _ _ => rfl))) (pss_cons (ps_for (passes_of rfl) rfl (pi_range1 rfl T.n_range (pa_cons (pe_cb cs_len rfl T.n_len bt_len (pa_cons (pe_var (i := 2) rfl (Or.inl rfl) nd_table.1 nd_table.2) pa_nil)) pa_nil)) (pg_name (i := 10) sc_reduced.nd rfl (Or.inl rfl)) (pss_one (ps_if (pt_cm (os_neF hr tk) (pe_var (i := 10) rfl (Or.inl rfl) nd_other.1 nd_other.2) (pe_var (i := 7) rfl (Or.inl rfl) nd_done.1 nd_done.2) (nomark _)) (pss_one (ps_asg (pe_cl c__cleared hr (by decide) tk rfl (pa_cons (pe_ix ix_seq (pe_var (i := 2) rfl (Or.inl rfl) nd_table.1 nd_table.2) (pe_var (i := 10) rfl (Or.inl rfl) nd_other.1 nd_other.2) (fun _ _ => rfl)) (pa_cons (pe_var (i := 9) rfl (Or.inl rfl) nd_head.1 nd_head.2) (pa_cons (pe_var (i := 6) rfl (Or.inl rfl) nd_column.1 nd_column.2) (pa_cons (pe_var (i := 5) rfl (Or.inl rfl) nd_scale.1 nd_scale.2) pa_nil))))) (pg_sub (pe_var (i := 2) rfl (Or.inl rfl) nd_table.1 nd_table.2) (pe_var (i := 10) rfl (Or.inl rfl) nd_other.1 nd_other.2) set_list))) pss_nil))) (pss_cons (ps_expr (pe_bm PySem.F.plainAttrs_list PySem.F.slot_list_append PySem.F.type_list_append mt_append (pe_var (i := 4) rfl (Or.inl rfl) nd_pivots.1 nd_pivots.2) (pa_cons (pe_var (i := 6) rfl (Or.inl rfl) nd_column.1 nd_column.2) pa_nil))) (pss_one (ps_set (i := 5) sc_reduced.nd rfl (Or.inl rfl) (pe_ix ix_seq (pe_var (i := 9) rfl (Or.inl rfl) nd_head.1 nd_head.2) (pe_var (i := 6) rfl (Or.inl rfl) nd_column.1 nd_column.2) (fun _ _ => rfl)))))))))))) (pss_one (ps_ret (pe_tup (pa_cons (pe_var (i := 4) rfl (Or.inl rfl) nd_pivots.1 nd_pivots.2) (pa_cons (pe_slice sl_list (pe_var (i := 2) rfl (Or.inl rfl) nd_table.1 nd_table.2) po_none (po_some (pe_cb cs_len rfl T.n_len bt_len (pa_cons (pe_var (i := 4) rfl (Or.inl rfl) nd_pivots.1 nd_pivots.2) pa_nil)))) (pa_cons (pe_var (i := 5) rfl (Or.inl rfl) nd_scale.1 nd_scale.2) pa_nil)))))))))), ?_⟩)
  rintro ds m K E - ⟨d, h, w, n, A, b, rfl, hd, ra, k⟩
  show Ws _ _ _ [some d, some (.int (n : Nat)), none, none, none, none, none, none, none, none, none] _ _
  try dsimp only [cx_G, cx_K]
  have hh := ra.hh
  have hw := ra.hw
  have nw := ra.nw
  have bb := ra.bb
  walk_at "gn_2"
  refine we_copyL hd rfl rfl (by show 3 < 11; decide) (by rw [tabR_len]; omega) fun t ht => ?_
  walk_at "gn_2"
  refine we_lstM ?_
  walk_at "gn_2"
  intro pv hpv
  walk_at "gn_2"
  let R0 : Int → Option D → Option D → Option D → Option D → Option D → Rho := fun s o6 o7 o8 o9 o10 => [some d, some (.int (n : Nat)), some (.ref t), none, some (.ref pv), some (.int s), o6, o7, o8, o9, o10]
  let pvs : Nat → (Nat → Nat) → List D := fun k P => ((List.range k).map fun j => (P j : Int)).map D.int
  refine ws_range1 ?_
  walk_at "gn_2"
  refine ⟨_, fun c r' m' => ∃ (P : Nat → Nat) (k : Nat) (T : Nat → Nat → Int) (s : Int), Red h w c A P k T s ∧ m' = (pv, .lst (pvs k P)) :: (t, .lst ((tabR h w T).map li)) :: m ∧ ∃ o6 o7 o8 o9 o10, r' = R0 s o6 o7 o8 o9 o10, rfl, by omega, ⟨fun _ => 0, 0, A, 1, Red.zero, rfl, none, none, none, none, none, rfl⟩, ?_, ?_⟩
  · rintro c r' m' hc ⟨P, k, T, s, R, rfl, o6, o7, o8, o9, o10, rfl⟩
    have hc' : c < n := by omega
    obtain ⟨kh, s0, sb, tb⟩ := R.sz (by omega) hh ra.sz
    have k1 : (k + 1) * (b + 66) ≤ 65 * 106 := Nat.mul_le_mul (by omega) (by omega)
    have k2 : k * (b + 66) ≤ 65 * 106 := Nat.mul_le_mul (by omega) (by omega)
    have lp : LstM (.ref pv) ((pv, MO.lst (pvs k P)) :: (t, .lst ((tabR h w T).map li)) :: m) (pvs k P) := .mutb .head
    have lt : LstM (.ref t) ((pv, MO.lst (pvs k P)) :: (t, .lst ((tabR h w T).map li)) :: m) ((tabR h w T).map li) := .mutb (.tail .head)
    have ek : (((pvs k P).length : Nat) : Int) = (k : Int) := by simp [pvs]
    walk_at "gn_2"
    rw [ek]
    refine use_ffil lt kh (by omega) (by omega) (fun z => ?_) fun p hkp hph p0 => ?_
    · walk_at "go_2"
      refine ⟨P, k, T, s, R.skip (by omega) z, rfl, _, _, _, _, _, rfl⟩
    walk_at "go_2"
    refine w2_ixLst lt ⟨atI_get (tabR_at hph), ?_⟩
    walk_at "go_2"
    refine w2_ixLst lt ⟨atI_get (tabR_at (by omega)), ?_⟩
    walk_at "go_2"
    refine ⟨t, _, _, k, _, rfl, rfl, .tail .head, ixN_nat (by rw [List.length_map, tabR_len]; omega), .tail .head, ?_⟩
    rw [tabR_set (i := k) (by omega)]
    walk_at "go_2"
    refine ⟨t, _, _, p, _, rfl, rfl, .tail .head, ixN_nat (by rw [List.length_map, tabR_len]; omega), .tail .head, ?_⟩
    rw [tabR_set (i := p) hph]
    have e1 : tabR h w (fun a q => if a = p then T k q else if a = k then T p q else T a q) = tabR h w fun i q => T (swp k p i) q := tabR_congr fun i q _ _ => by
      unfold swp
      by_cases y : i = k
      · subst y
        by_cases x : i = p
        · subst x
          simp
        · simp [x]
      · by_cases x : i = p
        · subst x
          simp [y]
        · simp [x, y]
    rw [e1]
    have R2 := R.pivot (p := p) (by omega) hkp hph p0
    generalize hT : (fun i q => T (swp k p i) q) = T' at *
    have tk : ∀ q, T' k q = T p q := fun q => by
      rw [← hT]
      show T (swp k p k) q = _
      unfold swp
      rw [if_pos rfl]
    have tb' : ∀ i q, i < h → q < w → Bd 8000 (T' i q) := fun i q hi hq => by
      rw [← hT]
      exact (tb (swp k p i) q (swp_h (by omega) hph hi) hq).mono (by omega)
    clear lp lt
    have lt : LstM (.ref t) ((pv, MO.lst (pvs k P)) :: (t, .lst ((tabR h w T').map li)) :: m) ((tabR h w T').map li) := .mutb (.tail .head)
    walk_at "go_2"
    refine w2_ixLst lt ⟨atI_get (tabR_at (show k < h by omega)), ?_⟩
    walk_at "go_2"
    refine ws_range1 ?_
    walk_at "go_2"
    rw [List.length_map, tabR_len]
    let To : Nat → Nat → Nat → Int := fun o i q => if i < o ∧ i ≠ k then (T' k c * T' i q - T' i c * T' k q).fdiv s else T' i q
    refine ⟨_, fun o r' m' => m' = (pv, .lst (pvs k P)) :: (t, .lst ((tabR h w (To o)).map li)) :: m ∧ ∃ o10, r' = R0 s (some (.int (c : Nat))) (some (.int (k : Nat))) (some (.int (p : Nat))) (some (li ((List.range w).map fun q => T' k q))) o10, rfl, by omega, ⟨?_, o10, rfl⟩, ?_, ?_⟩
    · rw [show tabR h w (To 0) = tabR h w T' from tabR_congr fun i q _ _ => by simp [To]]
    · rintro o r' m' ho ⟨rfl, o10, rfl⟩
      have ho' : o < h := by omega
      have lt : LstM (.ref t) ((pv, MO.lst (pvs k P)) :: (t, .lst ((tabR h w (To o)).map li)) :: m) ((tabR h w (To o)).map li) := .mutb (.tail .head)
      have sm0 : ∀ q, To o o q = T' o q := fun q => by simp [To]
      walk_at "go_2"
      · refine w2_ixLst lt ⟨atI_get (tabR_at ho'), ?_⟩
        have e0 : (List.range w).map (fun q => To o o q) = (List.range w).map fun q => T' o q := List.map_congr_left fun q _ => sm0 q
        rw [e0]
        walk_at "go_2"
        refine use_clrd (by omega) (by omega) s0 (sb.mono (by omega)) (fun q hq => tb' o q ho' hq) (fun q hq => tb' k q (by omega) hq) ?_
        walk_at "go_2"
        refine ⟨t, _, _, o, _, rfl, rfl, .tail .head, ixN_nat (by rw [List.length_map, tabR_len]; omega), .tail .head, ?_⟩
        rw [tabR_set ho']
        refine ⟨?_, _, rfl⟩
        have nk : o ≠ k := by
          have := ‹¬ ((o : Nat) : Int) = (k : Int)›
          omega
        rw [show tabR h w (To (o + 1)) = tabR h w (fun a q => if a = o then (T' k c * T' o q - T' o c * T' k q).fdiv s else To o a q) from tabR_congr fun i q _ _ => by
          simp only [To]
          by_cases y : i = o
          · subst y
            rw [if_pos ⟨by omega, nk⟩, if_pos rfl]
          · rw [if_neg y]
            by_cases x : i < o ∧ i ≠ k
            · rw [if_pos x, if_pos ⟨by omega, x.2⟩]
            · rw [if_neg x, if_neg (fun z => x ⟨by omega, z.2⟩)]]
      · have ek2 : o = k := by
          have := ‹((o : Nat) : Int) = (k : Int)›
          omega
        refine ⟨?_, _, rfl⟩
        rw [show tabR h w (To (o + 1)) = tabR h w (To o) from tabR_congr fun i q _ _ => by
          simp only [To]
          by_cases x : i < o ∧ i ≠ k
          · rw [if_pos x, if_pos ⟨by omega, x.2⟩]
          · rw [if_neg x, if_neg (fun z => x ⟨by omega, z.2⟩)]]
    · rintro r' m' ⟨rfl, o10, rfl⟩
      rw [Int.toNat_natCast]
      have e2 : tabR h w (To h) = tabR h w (clr T' s k c) := tabR_congr fun i q hi _ => by
        simp only [To, clr]
        by_cases y : i = k
        · rw [if_pos y, if_neg (fun z => z.2 y), y]
        · rw [if_neg y, if_pos ⟨hi, y⟩]
      rw [e2]
      walk_at "go_2"
      · simp [pvs]
        omega
      · simp
        omega
      · have ep : pvs k P ++ [D.int (c : Nat)] = pvs (k + 1) fun j => if j = k then c else P j := by
          simp only [pvs]
          rw [range_sn, List.map_append]
          congr 1
          · congr 1
            exact List.map_congr_left fun j hj => by rw [if_neg (by have := List.mem_range.mp hj; omega)]
          · simp
        refine ⟨fun j => if j = k then c else P j, k + 1, clr T' s k c, T p c, R2, by rw [← ep], ?_⟩
        rw [range_at' (show c < w by omega), tk]
        exact ⟨_, _, _, _, _, rfl⟩
  · rintro r' m' ⟨P, k', T, s, R, rfl, o6, o7, o8, o9, o10, rfl⟩
    rw [Int.toNat_natCast] at R
    obtain ⟨kh, s0, sb, tb⟩ := R.sz (by omega) hh ra.sz
    refine Ws.freeze (i := 4) rfl (Ws.shed ?_)
    walk_at "go_2"
    refine we_slM ?_
    walk_at "go_2"
    refine ⟨_, .mutb .head, wo_none ⟨.mutb .head, wo_some ?_⟩⟩
    walk_at "go_2"
    refine ⟨.mutb .head, ?_⟩
    have ek : (((pvs k' P).length : Nat) : Int) = (k' : Int) := by simp [pvs]
    rw [ek, cutD_pre, ← List.map_take, tabR_take kh]
    walk_at "go_2"
    exact ⟨1, k P k' T s R⟩

end
end K10
set_option Elab.async false
set_option linter.all false
set_option maxRecDepth 100000
set_option maxHeartbeats 4000000
namespace K10
open PySem PySem.Spec L2 DL
open PyProof.Rows hiding St
/-! one step, by the goal's head -/

/-! comprehensions, sums, lists of others -/

/-! lists that may be written -/

section
variable {G : Gx} {C_Ratio C_Grid C_BadShape C_BadPlace C_CarryError : Addr}
/-! the program's pivots alone -/
def S_pcol : SpecD := fun ds m K _ => ∃ (d : D) (h w n : Nat) (A : Nat → Nat → Int) (b : Nat), ds = [d, .int (n : Nat)] ∧ (d = lli (tabR h w A) ∨ d = tti (tabR h w A)) ∧ ReA h w n A b ∧
  ∀ P k T s pv, Rdc h w n A P k T s → ¬ dom m pv → K (.ref pv) ((pv, .lst (((List.range k).map fun j => (P j : Int)).map D.int)) :: m)
theorem use_pcol {d : D} {h w n b : Nat} {A : Nat → Nat → Int} {m : Mu} {K : KT} {E : Ex → Mu → Prop} (hd : d = lli (tabR h w A) ∨ d = tti (tabR h w A)) (ra : ReA h w n A b)
    (k : ∀ P k T s pv, Rdc h w n A P k T s → ¬ dom m pv → K (.ref pv) ((pv, .lst (((List.range k).map fun j => (P j : Int)).map D.int)) :: m)) : S_pcol [d, .int (n : Nat)] m K E := ⟨d, h, w, n, A, b, rfl, hd, ra, k⟩
theorem we_copyF {G : Gx} {W : WX} {E : ET} {r : Rho} {m : Mu} {K : KT} {s i : Nat} {vs : List Nat} {rows : List (List Int)} {d : D} (hd : d = lli rows ∨ d = tti rows) (hv : vs = [i]) (hs : r[s]? = some (some d)) (hi : i < r.length) (hl : rows.length ≤ 1000)
    (k : K (.lst (rows.map li)) m) :
    We W E (tLc (iSeq G.K (tVar s)) (gName i) tYes (tC2 (cListF G) (tCons (tVar i) tNil)) vs) r m K := by
  subst hv
  have bl : Nat.ble rows.length 100000 = true := Nat.ble_eq_true_of_le (by omega)
  rcases hd with rfl | rfl
  · refine we_lcs (α := List Int) (fun a => li a) li (gk_name (by simp)) (wi_seq (we_var hs ⟨[], _, .lst, rows, rfl, bl, fun a _ q => wg_name ?_, k⟩))
    refine we_c2 (wa_cons (we_var (d := li a) ?_ (wa_nil (wc_listF .lst ⟨rfl, rfl⟩))))
    show ((r.set i none).set i (some (li a)))[i]? = _
    simp [hi]
  · refine we_lcs (α := List Int) (fun a => tup a) li (gk_name (by simp)) (wi_seq (we_var hs ⟨[], _, .tup, rows, rfl, bl, fun a _ q => wg_name ?_, k⟩))
    refine we_c2 (wa_cons (we_var (d := tup a) ?_ (wa_nil (wc_listF .tup ⟨rfl, rfl⟩))))
    show ((r.set i none).set i (some (tup a)))[i]? = _
    simp [hi]
/-- the rows but one -/
theorem tabR_cut {h w p : Nat} {f : Nat → Nat → Int} (hp : p < h) : ((tabR h w f).map li).take p ++ ((tabR h w f).map li).drop (p + 1) = (List.range (h - 1)).map fun i => li ((List.range w).map fun q => if i < p then f i q else f (i + 1) q) := by
  refine List.ext_getElem (by simp [tabR]; omega) fun a h1 h2 => ?_
  have ha : a < h - 1 := by simpa using h2
  by_cases z : a < p
  · rw [List.getElem_append_left (by simp [tabR]; omega)]
    simp [tabR, z]
  · rw [List.getElem_append_right (by simp [tabR]; omega)]
    have e1 : p + 1 + (a - (((tabR h w f).map li).take p).length) = a + 1 := by
      simp [tabR]
      omega
    rw [List.getElem_drop]
    simp only [e1]
    simp [tabR, z]
local macro_rules | `(tactic| walk_at "fld_1") => `(tactic| (with_reducible refine we_fldF ?_))
local macro_rules | `(tactic| walk_at "useWe_1") => `(tactic| first | (with_reducible refine we_app ?_) | (with_reducible refine we_slPre ?_) | (with_reducible refine we_slSuf ?_) | fail)
local macro_rules | `(tactic| walk_at "sWe_1") => `(tactic| first
  | ((with_reducible refine we_var (d := ?d) ?hv ?hk); case hv => rfl)
  | (with_reducible first
    | refine we_cint ?_ | refine we_2 ?_ | refine we_cl0 ?_ | refine we_tup ?_ | refine we_1 ?_ | refine we_c2 ?_ | refine we_cbl ?_ | refine we_cnon ?_ | refine we_cty ?_ | refine we_cref ?_
    | refine we_op ?_ | refine we_andV ?_ | refine we_orV ?_ | refine we_notV ?_ | refine we_3 ?_ | refine we_ifx ?_ | refine we_cstr ?_ | refine we_clH ?_)
  | walk_at "fld_1"
  | walk_at "useWe_1")
local macro_rules | `(tactic| walk_at "useW2_1") => `(tactic| first
  | (with_reducible refine w2_eqRN ?_) | (with_reducible refine w2_eqLN ?_) | (with_reducible refine w2_eqLli ?_) | (with_reducible refine w2_eqLi ?_)
  | (with_reducible refine w2_ixT ⟨ix_map0 ?_, ?_⟩) | (with_reducible refine w2_ixL ⟨ix_map0 ?_, ?_⟩) | (with_reducible refine w2_ixT ⟨ix_map ?_, ?_⟩) | (with_reducible refine w2_ixL ⟨ix_map ?_, ?_⟩)
  | (with_reducible refine w2_addO (by assumption) (by decide) .fixed .fixed ?_) | (with_reducible refine w2_subO (by assumption) (by decide) .fixed .fixed ?_) | (with_reducible refine w2_mulO (by assumption) (by decide) .fixed .fixed ?_) | (with_reducible refine w1_negO (by assumption) (by decide) .fixed ?_)
  | (with_reducible refine w2_catL .lst .lst ?_ ?_) | fail)
local macro_rules | `(tactic| walk_at "sW2_1") => `(tactic| first
  | (with_reducible first
    | refine w2_add ?_ | refine w2_sub ?_ | refine w2_mul ⟨?_, ?_⟩ | refine w2_fdiv ⟨?_, ?_⟩ | refine w2_mod ⟨?_, ?_⟩ | refine w2_pow ⟨?_, ?_⟩ | refine w2_eqI ?_ | refine w2_neI ?_ | refine w2_lt ?_ | refine w2_le ?_ | refine w2_gt ?_ | refine w2_ge ?_ | refine w2_eqFI ?_ | refine w2_neFI ?_)
  | ((with_reducible refine w2_ixT (d := ?d) ⟨?hv, ?hk⟩); case hv => rfl)
  | ((with_reducible refine w2_ixL (d := ?d) ⟨?hv, ?hk⟩); case hv => rfl)
  | ((with_reducible refine w2_ixM (d := ?d) .head ⟨?hv, ?hk⟩); case hv => rfl)
  | (with_reducible first
    | refine w2_eqIH ?_ | refine w2_neIH ?_ | refine w2_mulH ⟨?_, ?_⟩ | refine w2_addH ?_ | refine w2_subH ?_ | refine w2_isN ?_ | refine w2_notN ?_ | refine w2_isB ?_ | refine w2_notB ?_)
  | walk_at "useW2_1")
local macro_rules | `(tactic| walk_at "sWa_1") => `(tactic| with_reducible first | refine wa_nil ?_ | refine wa_cons ?_)
local macro_rules | `(tactic| walk_at "useWs_1") => `(tactic| first | (with_reducible refine ws_rs0 ?_) | (with_reducible refine ws_rs ?_) | fail)
local macro_rules | `(tactic| walk_at "sWs_1") => `(tactic| first
  | (with_reducible first | refine ws_seq ?_ | refine ws_ret ?_ | refine ws_asg ?_ | refine ws_next ?_ | refine ws_drop ?_ | refine ws_par ?_ | refine ws_par3 ?_ | refine ws_fldN ?_ | refine ws_brk ?_ | refine ws_cont ?_)
  | walk_at "useWs_1")
local macro_rules | `(tactic| walk_at "sWt_1") => `(tactic| with_reducible first | refine wt_test ?_ | refine wt_tr ?_ | refine wt_and ?_ | refine wt_or ?_ | refine wt_not ?_)
local macro_rules | `(tactic| walk_at "useWc_1") => `(tactic| first
  | (with_reducible refine wc_len (LstM.len (by assumption)) ?_) | (with_reducible refine wc_len (SeqM.len (by assumption)) ?_) | (with_reducible refine wc_sumG ?_) | (with_reducible refine wc_sumI ?_) | (with_reducible refine wc_tupleL .tup ?_) | (with_reducible refine wc_tupleL .lst ?_) | (with_reducible refine wc_listF .tup ?_) | (with_reducible refine wc_listF .lst ?_) | fail)
local macro_rules | `(tactic| walk_at "sWc_1") => `(tactic| first
  | (with_reducible first | refine wc_int ?_ | refine wc_abs ?_ | refine wc_min ?_ | refine wc_gcd ?_ | refine wc_isiT .int kit_ii ?_ | refine wc_isiT .int kit_ib ?_ | refine wc_len .lst ?_ | refine wc_len .tup ?_ | refine wc_strI ?_ ?_)
  | walk_at "useWc_1")
local macro_rules | `(tactic| walk_at "sWi_1") => `(tactic| with_reducible first | refine wi_seq ?_ | refine wi_rng1S ?_ | refine wi_rng2 ?_ | refine wi_zipM ?_)
local macro_rules | `(tactic| walk_at "sWg_1") => `(tactic| with_reducible first | refine wg_name ?_ | refine wg_subM ?_ | refine wg_tup rfl ?_)
local macro_rules | `(tactic| walk_at "sW1_1") => `(tactic| first | (with_reducible refine w1_neg ?_) | walk_at "useW2_1")
local macro_rules | `(tactic| walk_at "sWgs_1") => `(tactic| with_reducible first | refine wgs_cons ?_ | refine wgs_nil ?_)
local macro_rules | `(tactic| walk_at "sS_1") => `(tactic| first | (with_reducible refine SlA.mk ?_ ?_) | (with_reducible refine RngA.mk ?_ ?_) | (with_reducible refine LcS.mk ?_ (fun a ha q => ?_) ?_) | (with_reducible exact LcL.mk rfl rfl) | fail)
local macro_rules | `(tactic| walk_at "sq_1") => `(tactic| first | assumption | exact SeqM.cons (by assumption) | exact SeqM.cons (SeqM.cons (by assumption)))
local macro_rules | `(tactic| walk_at "lst_1") => `(tactic| first
  | (with_reducible refine ⟨_, _, rfl, .head, ?_⟩) | (with_reducible refine ⟨_, _, _, rfl, .head, ?_, .head, ?_⟩) | (with_reducible refine ⟨_, _, .tup, ?_⟩) | (with_reducible refine ⟨_, _, .lst, ?_⟩) | (with_reducible refine ⟨_, _, (by walk_at "sq_1"), ?_⟩)
  | (with_reducible refine ⟨_, _, _, _, _, _, _, _, _, _, rfl, .tup, .tup, ?_⟩) | (with_reducible refine ⟨_, _, _, _, _, _, _, _, _, _, rfl, .tup, .lst, ?_⟩) | (with_reducible refine ⟨_, _, _, _, _, _, _, _, _, _, rfl, .tup, (by walk_at "sq_1"), ?_⟩) | (with_reducible refine ⟨_, _, _, _, _, _, _, _, _, _, rfl, .lst, .tup, ?_⟩) | (with_reducible refine ⟨_, _, _, _, _, _, _, _, _, _, rfl, .lst, .lst, ?_⟩) | (with_reducible refine ⟨_, _, _, _, _, _, _, _, _, _, rfl, .lst, (by walk_at "sq_1"), ?_⟩) | (with_reducible refine ⟨_, _, _, _, _, _, _, _, _, _, rfl, (by walk_at "sq_1"), .tup, ?_⟩) | (with_reducible refine ⟨_, _, _, _, _, _, _, _, _, _, rfl, (by walk_at "sq_1"), .lst, ?_⟩) | (with_reducible refine ⟨_, _, _, _, _, _, _, _, _, _, rfl, (by walk_at "sq_1"), (by walk_at "sq_1"), ?_⟩) | fail)
local macro_rules | `(tactic| walk_at "use_1") => `(tactic| first | walk_at "lst_1" | fail)
local macro_rules | `(tactic| walk_at "sX_1") => `(tactic| first
  | (with_reducible refine ⟨_, rfl, ?_⟩)
  | (with_reducible refine fld_top (by assumption) ?_) | (with_reducible refine fld_bottom (by assumption) ?_)
  | (with_reducible refine ⟨_, .bl, ?_⟩)
  | ((with_reducible refine ⟨?h, ?_⟩); case h => rfl)
  | (with_reducible refine ⟨_, _, rfl, ?_⟩)
  | (with_reducible refine ⟨_, _, _, rfl, ?_⟩)
  | walk_at "use_1"
  | (with_reducible refine setN_top (by assumption) ?_) | (with_reducible refine setN_bottom (by assumption) ?_)
  | ((with_reducible refine ⟨_, _, _, ?j, _, rfl, rfl, .head, ?h, .head, ?_⟩); case h => rfl)
  | fail)
local macro_rules | `(tactic| walk_at "st_1") => `(tactic| first
  | ((with_reducible show We _ _ _ _ _ _); walk_at "sWe_1")
  | ((with_reducible show W2 _ _ _ _ _ _ _ _); walk_at "sW2_1")
  | ((with_reducible show Wa _ _ _ _ _ _); walk_at "sWa_1")
  | ((with_reducible show Ws _ _ _ _ _ _); walk_at "sWs_1")
  | ((with_reducible show Wt _ _ _ _ _ _); walk_at "sWt_1")
  | ((with_reducible show Wc _ _ _ _ _ _ _); walk_at "sWc_1")
  | ((with_reducible show Wi _ _ _ _ _ _); walk_at "sWi_1")
  | ((with_reducible show Wg _ _ _ _ _ _ _); walk_at "sWg_1")
  | ((with_reducible show W1 _ _ _ _ _ _ _); walk_at "sW1_1")
  | ((with_reducible show Wgs _ _ _ _ _ _ _); walk_at "sWgs_1")
  | walk_at "sS_1" | walk_at "sX_1" | fail)
local macro_rules | `(tactic| walk_at "br_1") => `(tactic| ((with_reducible refine ⟨fun hb => ?_, fun hb => ?_⟩) <;> (try simp only [decide_eq_true_eq, decide_eq_false_iff_not, Bool.not_eq_true', Bool.not_eq_false', Bool.and_eq_true, Bool.or_eq_true, reduceCtorEq, List.length_map, Bool.not_true, Bool.not_false, DL.isNon, not_true_eq_false, not_false_eq_true, Classical.not_not, List.all_cons, List.all_nil, id_eq, Bool.and_self, Bool.true_and, decide_true, decide_false] at hb)))
local macro_rules | `(tactic| walk_at "gn_1") => `(tactic| repeat' (first | walk_at "st_1" | walk_at "br_1" | fail))
local macro_rules | `(tactic| walk_at "wif_1") => `(tactic| (with_reducible refine ws_if ?_))
local macro_rules | `(tactic| walk_at "go_1") => `(tactic| repeat' (first | walk_at "st_1" | walk_at "wif_1" | walk_at "br_1" | fail))
theorem ok_pcol (T : Txt G C_Ratio C_Grid C_BadShape C_BadPlace C_CarryError) (c__first_filled : Cal G 1 "_first_filled" 3 S_ffil []) (c__cleared : Cal G 1 "_cleared" 4 S_clrd []) {f : Addr} {fd : FuncData} (F : L2.Fun G.K "pivot_columns" "pivot_columns" s_pivot_columns f fd) (b : L2.Binds G.K fd ["rows", "width"] []) : Fnx G 2 f 2 S_pcol [] := by
  refine fnx_of F sc_pivot_columns rfl b .nil rfl (fun cdv A outer s H FF hr tk => ⟨_, (pss_cons (ps_setLc (i := 2) (own := [("row", 3)]) (g := (gName 3)) (tt := tYes) rfl sc_pivot_columns.nd rfl rfl (sw_true rfl rfl rfl (by decide +kernel)) (pi_seqK (KK := G.K) (by rfl) (pe_var (i := 0) rfl (Or.inl rfl) nd_rows.1 nd_rows.2)) (blkOk_by (N := N_pivot_columns) (sc := (defScope s_pivot_columns)) (by decide +kernel)) (fun _ _ _ _ _ => (pg_name (i := 3) sc_pivot_columns.nd rfl (Or.inl rfl))) (fun _ _ _ _ _ => pts_nil) (fun _ _ _ _ _ => (pe_ct (oc := cListF G) cs_list rfl T.n_list bt_list (pa_cons (pe_var (i := 3) rfl (Or.inl rfl) nd_row.1 nd_row.2) pa_nil)))) (pss_cons (ps_set (i := 4) sc_pivot_columns.nd rfl (Or.inl rfl) (pe_lst pa_nil)) (pss_cons (ps_set (i := 5) sc_pivot_columns.nd rfl (Or.inr rfl) pe_int) (pss_cons (ps_for (passes_of rfl) rfl (pi_range1 rfl T.n_range (pa_cons (pe_var (i := 1) rfl (Or.inl rfl) nd_width.1 nd_width.2) pa_nil)) (pg_name (i := 6) sc_pivot_columns.nd rfl (Or.inr rfl)) (pss_cons (ps_set (i := 7) sc_pivot_columns.nd rfl (Or.inl rfl) (pe_cl c__first_filled hr (by decide) tk rfl (pa_cons (pe_var (i := 2) rfl (Or.inl rfl) nd_left.1 nd_left.2) (pa_cons pe_int (pa_cons (pe_var (i := 6) rfl (Or.inr (Or.inl rfl)) nd_column.1 nd_column.2) pa_nil))))) (pss_cons (ps_if (pt_cm os_is (pe_var (i := 7) rfl (Or.inl rfl) nd_place.1 nd_place.2) pe_non (nomark _)) (pss_one ps_continue) pss_nil) (pss_cons (ps_set (i := 8) sc_pivot_columns.nd rfl (Or.inr rfl) (pe_ix ix_seq (pe_var (i := 2) rfl (Or.inl rfl) nd_left.1 nd_left.2) (pe_var (i := 7) rfl (Or.inl rfl) nd_place.1 nd_place.2) (fun _ _ => rfl))) (pss_cons (ps_set (i := 9) sc_pivot_columns.nd rfl (Or.inl rfl) (pe_bin (os_add hr tk) (pe_slice sl_list (pe_var (i := 2) rfl (Or.inl rfl) nd_left.1 nd_left.2) po_none (po_some (pe_var (i := 7) rfl (Or.inl rfl) nd_place.1 nd_place.2))) (pe_slice sl_list (pe_var (i := 2) rfl (Or.inl rfl) nd_left.1 nd_left.2) (po_some (pe_bin (os_add hr tk) (pe_var (i := 7) rfl (Or.inl rfl) nd_place.1 nd_place.2) pe_int)) po_none))) (pss_cons (ps_setLc (i := 2) (own := [("row", 3)]) (g := (gName 3)) (tt := tYes) rfl sc_pivot_columns.nd rfl rfl (sw_true rfl rfl rfl (by decide +kernel)) (pi_seqK (KK := G.K) (by rfl) (pe_var (i := 9) rfl (Or.inl rfl) nd_rest.1 nd_rest.2)) (blkOk_by (N := N_pivot_columns) (sc := (defScope s_pivot_columns)) (by decide +kernel)) (fun _ _ _ _ _ => (pg_name (i := 3) sc_pivot_columns.nd rfl (Or.inl rfl))) (fun _ _ _ _ _ => pts_nil) (fun _ _ _ _ _ => (pe_cl c__cleared hr (by decide) takes0N rfl (pa_cons (pe_var (i := 3) rfl (Or.inl rfl) nd_row.1 nd_row.2) (pa_cons (pe_var (i := 8) rfl (Or.inr (Or.inl rfl)) nd_head.1 nd_head.2) (pa_cons (pe_var (i := 6) rfl (Or.inr (Or.inl rfl)) nd_column.1 nd_column.2) (pa_cons (pe_var (i := 5) rfl (Or.inr (Or.inl rfl)) nd_divisor.1 nd_divisor.2) pa_nil))))))) (pss_cons (ps_expr (pe_bm PySem.F.plainAttrs_list PySem.F.slot_list_append PySem.F.type_list_append mt_append (pe_var (i := 4) rfl (Or.inl rfl) nd_pivots.1 nd_pivots.2) (pa_cons (pe_var (i := 6) rfl (Or.inr (Or.inl rfl)) nd_column.1 nd_column.2) pa_nil))) (pss_one (ps_set (i := 5) sc_pivot_columns.nd rfl (Or.inr rfl) (pe_ix ix_seq (pe_var (i := 8) rfl (Or.inr (Or.inl rfl)) nd_head.1 nd_head.2) (pe_var (i := 6) rfl (Or.inr (Or.inl rfl)) nd_column.1 nd_column.2) (fun _ _ => rfl))))))))))) (pss_one (ps_ret (pe_var (i := 4) rfl (Or.inl rfl) nd_pivots.1 nd_pivots.2))))))), ?_⟩)
  rintro ds m K E - ⟨d, h, w, n, A, b, rfl, hd, ra, k⟩
  show Ws _ _ _ [some d, some (.int (n : Nat)), none, none, none, none, none, none, none, none] _ _
  try dsimp only [cx_G, cx_K]
  have hh := ra.hh
  have hw := ra.hw
  have nw := ra.nw
  have bb := ra.bb
  walk_at "gn_1"
  refine we_copyF hd rfl rfl (by show 3 < 10; decide) (by rw [tabR_len]; omega) ?_
  walk_at "gn_1"
  refine we_lstM ?_
  walk_at "gn_1"
  intro pv hpv
  walk_at "gn_1"
  let pvs : Nat → (Nat → Nat) → List D := fun k P => ((List.range k).map fun j => (P j : Int)).map D.int
  let lf : Nat → (Nat → Nat → Int) → List (List Int) := fun k T => tabR (h - k) w fun i q => T (k + i) q
  let R0 : Nat → (Nat → Nat → Int) → Int → Option D → Option D → Option D → Option D → Rho := fun k T s o6 o7 o8 o9 => [some d, some (.int (n : Nat)), some (.lst ((lf k T).map li)), none, some (.ref pv), some (.int s), o6, o7, o8, o9]
  have e0 : lf 0 A = tabR h w A := tabR_congr fun i q _ _ => by rw [Nat.zero_add]
  refine ws_range1 ?_
  walk_at "gn_1"
  refine ⟨_, fun c r' m' => ∃ (P : Nat → Nat) (k : Nat) (T : Nat → Nat → Int) (s : Int), Rdc h w c A P k T s ∧ m' = (pv, .lst (pvs k P)) :: m ∧ ∃ o6 o7 o8 o9, r' = R0 k T s o6 o7 o8 o9, rfl, by omega, ⟨fun _ => 0, 0, A, 1, Rdc.zero, rfl, none, none, none, none, by show _ = [some d, _, some (.lst ((lf 0 A).map li)), _, _, _, _, _, _, _]; rw [e0]; rfl⟩, ?_, ?_⟩
  · rintro c r' m' hc ⟨P, k, T, s, R, rfl, o6, o7, o8, o9, rfl⟩
    have hc' : c < n := by omega
    obtain ⟨kh, s0, sb, tb⟩ := R.sz (by omega) hh ra.sz
    have k1 : (k + 1) * (b + 66) ≤ 65 * 106 := Nat.mul_le_mul (by omega) (by omega)
    have k2 : k * (b + 66) ≤ 65 * 106 := Nat.mul_le_mul (by omega) (by omega)
    walk_at "gn_1"
    refine use_ffil (k := 0) (T := fun i q => T (k + i) q) (h := h - k) (w := w) .lst (by omega) (by omega) (by omega) (fun z => ?_) fun p _ hph p0 => ?_
    · walk_at "go_1"
      refine ⟨P, k, T, s, R.skip (by omega) (fun i h1 h2 => ?_), rfl, _, _, _, _, rfl⟩
      have q := z (i - k) (by omega) (by omega)
      rwa [show k + (i - k) = i by omega] at q
    walk_at "go_1"
    all_goals try (show p < (lf k T).length; rw [tabR_len]; exact hph)
    all_goals try exact Int.natCast_nonneg p
    all_goals try (show (0 : Int) ≤ (p : Int) + 1; omega)
    all_goals try (show (List.map li (List.take (p : Int).toNat (lf k T))).length + (List.map li (List.drop ((p : Int) + 1).toNat (lf k T))).length ≤ 1000000; rw [List.length_map, List.length_map, List.length_take, List.length_drop, tabR_len]; omega)
    let T' : Nat → Nat → Int := fun i q => T (DL.rot k (k + p) i) q
    have rk : ∀ q, T' k q = T (k + p) q := fun q => by
      show T (DL.rot k (k + p) k) q = _
      unfold DL.rot
      rw [if_pos rfl]
    have er : (lf k T)[p]! = (List.range w).map fun q => T (k + p) q := tabR_row hph
    have ec : List.map li (List.take (p : Int).toNat (lf k T)) ++ List.map li (List.drop ((p : Int) + 1).toNat (lf k T)) = (List.range (h - k - 1)).map fun i => li ((List.range w).map fun q => T' (k + 1 + i) q) := by
      rw [show ((p : Int) + 1).toNat = p + 1 by omega, Int.toNat_natCast, List.map_take, List.map_drop, tabR_cut hph]
      refine List.map_congr_left fun i _ => ?_
      congr 1
      refine List.map_congr_left fun q _ => ?_
      show _ = T (DL.rot k (k + p) (k + 1 + i)) q
      unfold DL.rot
      by_cases z : i < p
      · rw [if_pos z, if_neg (by omega), if_pos (by omega), show k + 1 + i - 1 = k + i by omega]
      · rw [if_neg z, if_neg (by omega), if_neg (by omega), show k + (i + 1) = k + 1 + i by omega]
    rw [er, ec]
    refine we_lcs (α := Nat) (fun i => li ((List.range w).map fun q => T' (k + 1 + i) q)) (fun i => li ((List.range w).map fun q => (T (k + p) c * T' (k + 1 + i) q - T' (k + 1 + i) c * T (k + p) q).fdiv s)) (gk_name (by decide)) (wi_seq (we_var rfl ⟨[], _, .lst, List.range (h - k - 1), rfl, Nat.ble_eq_true_of_le (by rw [List.length_range]; omega), fun i hi q => wg_name ?_, ?_⟩))
    · have hi' := List.mem_range.mp hi
      have tb' : ∀ i q, i < h → q < w → Bd 8000 (T i q) := fun i q hi hq => (tb i q hi hq).mono (by omega)
      have rh : DL.rot k (k + p) (k + 1 + i) < h := by
        unfold DL.rot
        split
        · omega
        · split <;> omega
      walk_at "go_1"
      refine use_clrd (by omega) (by omega) s0 (sb.mono (by omega)) (fun q hq => tb' _ q rh hq) (fun q hq => tb' _ q (by omega) hq) ?_
      walk_at "go_1"
      all_goals exact ⟨rfl, rfl⟩
    walk_at "go_1"
    all_goals try (rw [List.length_map, List.length_range]; omega)
    all_goals try (show (pvs k P).length < 1000000; simp [pvs]; omega)
    have ep : pvs k P ++ [D.int (c : Nat)] = pvs (k + 1) fun j => if j = k then c else P j := by
      simp only [pvs]
      rw [range_sn, List.map_append]
      congr 1
      · congr 1
        exact List.map_congr_left fun j hj => by rw [if_neg (by have := List.mem_range.mp hj; omega)]
      · simp
    have el : (List.range (h - k - 1)).map (fun i => li ((List.range w).map fun q => (T (k + p) c * T' (k + 1 + i) q - T' (k + 1 + i) c * T (k + p) q).fdiv s)) = (lf (k + 1) (clr T' s k c)).map li := by
      show _ = (tabR (h - (k + 1)) w _).map li
      rw [tabR, List.map_map, show h - (k + 1) = h - k - 1 by omega]
      refine List.map_congr_left fun i _ => ?_
      show _ = li _
      congr 1
      refine List.map_congr_left fun q _ => ?_
      show _ = if k + 1 + i = k then T' k q else (T' k c * T' (k + 1 + i) q - T' (k + 1 + i) c * T' k q).fdiv s
      rw [if_neg (by omega), rk, rk]
    refine ⟨fun j => if j = k then c else P j, k + 1, clr T' s k c, T (k + p) c, R.rot (by omega) (by omega) (by omega) p0, by rw [← ep], ?_⟩
    rw [el, range_at' (show c < w by omega)]
    exact ⟨_, _, _, _, rfl⟩
  · rintro r' m' ⟨P, k', T, s, R, rfl, o6, o7, o8, o9, rfl⟩
    rw [Int.toNat_natCast] at R
    walk_at "go_1"
    exact k P k' T s pv R hpv

end
end K10
set_option Elab.async false
set_option linter.all false
set_option maxRecDepth 100000
set_option maxHeartbeats 4000000
namespace K10
open PySem PySem.Spec L2 DL
open PyProof.Rows hiding St
/-! one step, by the goal's head -/

/-! comprehensions, sums, lists of others -/

theorem okx_BadPlace {G : Gx} {C_BadPlace : Addr} (ox : OexC G.K C_BadPlace) (no1 : PySem.W.findIn G.K (.ref C_BadPlace) "place" = some none) (n_isinstance : G.mg "isinstance" = none) (n_list : G.mg "list" = none) (n_tuple : G.mg "tuple" = none) {f : Addr} {fd : FuncData} (F : L2.Fun G.K "__init__" "BadPlace.__init__" s_BadPlace___init__ f fd) : FnOk G.P G.w G.K G.mg G.base CX0 1 f fd ["self", "place"] (spXP C_BadPlace "place") := by
  refine F.ok sc_BadPlace___init__ (fun vs H Q E h => ?_) (fun cdv A outer s H vs Q E hr h => ?_)
  · obtain ⟨a, i, rfl, _⟩ := h
    rfl
  · obtain ⟨a, i, rfl, ha, k⟩ := h
    refine ⟨_, pss_one (ps_ost (pv 0) (pe_ifExp (pt_tr (pe_cb cs_isiT rfl n_isinstance bt_isinstance (pa_cons (pv 1) (pa_cons (pe_tup (pa_cons (pe_bltn (v := .ty "list") rfl n_list bt_list rfl) (pa_cons (pe_bltn (v := .ty "tuple") rfl n_tuple bt_tuple rfl) pa_nil))) pa_nil)))) (pe_ct cs_tuple rfl n_tuple bt_tuple (pa_cons (pv 1) pa_nil)) (pv 1))), ?_⟩
    refine ⟨_, rfl, ?_⟩
    refine ⟨by rw [sizeLine_eq]; decide, fun p hp => ?_⟩
    have ap : a ≠ p := fun e => by rw [e, hp] at ha; cases ha
    refine ⟨_, p, _, .type "int", [.type "list", .type "tuple"], false, rfl, upd_same, .cons (.ty _) (.cons (.ty _) .nil), .base (.int i), kit_anyF (kit_ty (by decide +kernel)) (kit_anyF (kit_ty (by decide +kernel)) kit_any0), false, rfl, ?_⟩
    refine ⟨_, rfl, _, rfl, a, C_BadPlace, rfl, ox, no1, .inl ⟨by rw [upd_ne ap]; exact ha, fun dx hdx hne => ?_⟩⟩
    have dp : dx ≠ p := fun e => by rw [e, upd_same] at hdx; cases hdx
    rw [upd_ne dp] at hdx
    refine k dx _ hdx hne (fun b hb1 hb2 hb3 => ?_) upd_same (by rw [upd_ne hne]; exact upd_same)
    have bp : b ≠ p := fun e => hb3 (by rw [e]; exact hp)
    rw [upd_ne hb1, upd_ne hb2, upd_ne bp]
end K10
set_option Elab.async false
set_option linter.all false
set_option maxRecDepth 100000
set_option maxHeartbeats 4000000
namespace K10
open PySem PySem.Spec L2 DL
open PyProof.Rows hiding St
/-! one step, by the goal's head -/

/-! comprehensions, sums, lists of others -/

/-! lists that may be written -/

/-! what the program tells of a grid -/
structure GaX (h w : Nat) (R : List (List Int)) : Prop where
  rc : Rc h w R
  hh : h ≤ 5
  hw : w ≤ 6
  sz : SzT 40 R
theorem GaX.re {h w : Nat} {R : List (List Int)} (g : GaX h w R) : ReA h w w (ce R) 40 :=
  ⟨by have := g.hh; omega, by have := g.hw; omega, Nat.le_refl _, Nat.le_refl _, fun i q hi hq => g.sz _ (mem_at (by rw [g.rc.len]; exact hi)) _ (mem_at (by rw [g.rc.row hi]; exact hq))⟩
def pvs (k : Nat) (P : Nat → Nat) : List D := ((List.range k).map fun j => (P j : Int)).map D.int
def S_icol (C : Addr) : SpecD := fun ds m K _ => ∃ (h w : Nat) (R : List (List Int)) (o : Int), ds = [gd C R o w] ∧ GaX h w R ∧ ∀ P k T s pv, Rdc h w w (ce R) P k T s → ¬ dom m pv → K (.ref pv) ((pv, .lst (pvs k P)) :: m)
theorem use_icol {C : Addr} {h w : Nat} {R : List (List Int)} {o : Int} {m : Mu} {K : KT} {E : Ex → Mu → Prop} (g : GaX h w R) (k : ∀ P k T s pv, Rdc h w w (ce R) P k T s → ¬ dom m pv → K (.ref pv) ((pv, .lst (pvs k P)) :: m)) : S_icol C [gd C R o w] m K E := ⟨h, w, R, o, rfl, g, k⟩
def S_rank (C : Addr) : SpecD := fun ds m K _ => ∃ (h w : Nat) (R : List (List Int)) (o : Int), ds = [gd C R o w] ∧ GaX h w R ∧ ∀ P (k : Nat) T s, Rdc h w w (ce R) P k T s → K (.int (k : Nat)) m
theorem use_rank {C : Addr} {h w : Nat} {R : List (List Int)} {o : Int} {m : Mu} {K : KT} {E : Ex → Mu → Prop} (g : GaX h w R) (k : ∀ P (k : Nat) T s, Rdc h w w (ce R) P k T s → K (.int (k : Nat)) m) : S_rank C [gd C R o w] m K E := ⟨h, w, R, o, rfl, g, k⟩
/-- what mixture makes -/
def mxs (C : Addr) (k c : Nat) (T : Nat → Nat → Int) (s : Int) : List D := (List.range k).map fun i => rq C (dv (T i c) s)
def S_mixt (C CR Z : Addr) : SpecD := fun ds m K E => ∃ (h w : Nat) (R : List (List Int)) (o c : Int), ds = [gd C R o w, .int c] ∧ GaX h w R ∧ (¬ (0 ≤ c ∧ c < (w : Int)) → E ⟨Z, ["place"], [.int c]⟩ m) ∧
  ∀ j : Nat, c = j → j < w → ∀ P k T s tp, Red h w w (ce R) P k T s → ¬ dom m tp → K (.ref tp) ((tp, .lst (mxs CR k j T s)) :: m)
section
variable {G : Gx} {C_Ratio C_Grid C_BadShape C_BadPlace C_CarryError : Addr}
local macro_rules | `(tactic| walk_at "fld_1") => `(tactic| (with_reducible refine we_fldF ?_))
local macro_rules | `(tactic| walk_at "useWe_1") => `(tactic| first | (with_reducible refine we_ratQ ?_) | fail)
local macro_rules | `(tactic| walk_at "sWe_1") => `(tactic| first
  | ((with_reducible refine we_var (d := ?d) ?hv ?hk); case hv => rfl)
  | (with_reducible first
    | refine we_cint ?_ | refine we_2 ?_ | refine we_cl0 ?_ | refine we_tup ?_ | refine we_1 ?_ | refine we_c2 ?_ | refine we_cbl ?_ | refine we_cnon ?_ | refine we_cty ?_ | refine we_cref ?_
    | refine we_op ?_ | refine we_andV ?_ | refine we_orV ?_ | refine we_notV ?_ | refine we_3 ?_ | refine we_ifx ?_ | refine we_cstr ?_ | refine we_clH ?_)
  | walk_at "fld_1"
  | walk_at "useWe_1")
local macro_rules | `(tactic| walk_at "useW2_1") => `(tactic| first
  | (with_reducible refine w2_eqRN ?_) | (with_reducible refine w2_eqLN ?_) | (with_reducible refine w2_eqLli ?_) | (with_reducible refine w2_eqLi ?_)
  | (with_reducible refine w2_ixT ⟨ix_map0 ?_, ?_⟩) | (with_reducible refine w2_ixL ⟨ix_map0 ?_, ?_⟩) | (with_reducible refine w2_ixT ⟨ix_map ?_, ?_⟩) | (with_reducible refine w2_ixL ⟨ix_map ?_, ?_⟩)
  | (with_reducible refine w2_addO (by assumption) (by decide) .fixed .fixed ?_) | (with_reducible refine w2_subO (by assumption) (by decide) .fixed .fixed ?_) | (with_reducible refine w2_mulO (by assumption) (by decide) .fixed .fixed ?_) | (with_reducible refine w1_negO (by assumption) (by decide) .fixed ?_)
  | (with_reducible refine w2_catL .lst .lst ?_ ?_) | fail)
local macro_rules | `(tactic| walk_at "sW2_1") => `(tactic| first
  | (with_reducible first
    | refine w2_add ?_ | refine w2_sub ?_ | refine w2_mul ⟨?_, ?_⟩ | refine w2_fdiv ⟨?_, ?_⟩ | refine w2_mod ⟨?_, ?_⟩ | refine w2_pow ⟨?_, ?_⟩ | refine w2_eqI ?_ | refine w2_neI ?_ | refine w2_lt ?_ | refine w2_le ?_ | refine w2_gt ?_ | refine w2_ge ?_ | refine w2_eqFI ?_ | refine w2_neFI ?_)
  | ((with_reducible refine w2_ixT (d := ?d) ⟨?hv, ?hk⟩); case hv => rfl)
  | ((with_reducible refine w2_ixL (d := ?d) ⟨?hv, ?hk⟩); case hv => rfl)
  | ((with_reducible refine w2_ixM (d := ?d) .head ⟨?hv, ?hk⟩); case hv => rfl)
  | (with_reducible first
    | refine w2_eqIH ?_ | refine w2_neIH ?_ | refine w2_mulH ⟨?_, ?_⟩ | refine w2_addH ?_ | refine w2_subH ?_ | refine w2_isN ?_ | refine w2_notN ?_ | refine w2_isB ?_ | refine w2_notB ?_)
  | walk_at "useW2_1")
local macro_rules | `(tactic| walk_at "sWa_1") => `(tactic| with_reducible first | refine wa_nil ?_ | refine wa_cons ?_)
local macro_rules | `(tactic| walk_at "useWs_1") => `(tactic| first | (with_reducible refine ws_rs0 ?_) | (with_reducible refine ws_rsS ?_) | fail)
local macro_rules | `(tactic| walk_at "sWs_1") => `(tactic| first
  | (with_reducible first | refine ws_seq ?_ | refine ws_ret ?_ | refine ws_asg ?_ | refine ws_next ?_ | refine ws_drop ?_ | refine ws_par ?_ | refine ws_par3 ?_ | refine ws_fldN ?_ | refine ws_brk ?_ | refine ws_cont ?_)
  | walk_at "useWs_1")
local macro_rules | `(tactic| walk_at "sWt_1") => `(tactic| with_reducible first | refine wt_test ?_ | refine wt_tr ?_ | refine wt_and ?_ | refine wt_or ?_ | refine wt_not ?_)
local macro_rules | `(tactic| walk_at "useWc_1") => `(tactic| first
  | (with_reducible refine wc_len (LstM.len (by assumption)) ?_) | (with_reducible refine wc_len (SeqM.len (by assumption)) ?_) | (with_reducible refine wc_sumG ?_) | (with_reducible refine wc_sumI ?_) | (with_reducible refine wc_tupleL .tup ?_) | (with_reducible refine wc_tupleL .lst ?_) | (with_reducible refine wc_listF .tup ?_) | (with_reducible refine wc_listF .lst ?_) | fail)
local macro_rules | `(tactic| walk_at "sWc_1") => `(tactic| first
  | (with_reducible first | refine wc_int ?_ | refine wc_abs ?_ | refine wc_min ?_ | refine wc_gcd ?_ | refine wc_isiT .int kit_ii ?_ | refine wc_isiT .int kit_ib ?_ | refine wc_len .lst ?_ | refine wc_len .tup ?_ | refine wc_strI ?_ ?_)
  | walk_at "useWc_1")
local macro_rules | `(tactic| walk_at "sWi_1") => `(tactic| with_reducible first | refine wi_seq ?_ | refine wi_rng1S ?_ | refine wi_rng2 ?_ | refine wi_zipM ?_)
local macro_rules | `(tactic| walk_at "sWg_1") => `(tactic| with_reducible first | refine wg_name ?_ | refine wg_subM ?_ | refine wg_tup rfl ?_)
local macro_rules | `(tactic| walk_at "sW1_1") => `(tactic| first | (with_reducible refine w1_neg ?_) | walk_at "useW2_1")
local macro_rules | `(tactic| walk_at "sWgs_1") => `(tactic| with_reducible first | refine wgs_cons ?_ | refine wgs_nil ?_)
local macro_rules | `(tactic| walk_at "sS_1") => `(tactic| first | (with_reducible refine SlA.mk ?_ ?_) | (with_reducible refine RngA.mk ?_ ?_) | (with_reducible refine LcS.mk ?_ (fun a ha q => ?_) ?_) | (with_reducible exact LcL.mk rfl rfl) | fail)
local macro_rules | `(tactic| walk_at "sq_1") => `(tactic| first | assumption | exact SeqM.cons (by assumption) | exact SeqM.cons (SeqM.cons (by assumption)))
local macro_rules | `(tactic| walk_at "lst_1") => `(tactic| first
  | (with_reducible refine ⟨_, _, rfl, .head, ?_⟩) | (with_reducible refine ⟨_, _, _, rfl, .head, ?_, .head, ?_⟩) | (with_reducible refine ⟨_, _, .tup, ?_⟩) | (with_reducible refine ⟨_, _, .lst, ?_⟩) | (with_reducible refine ⟨_, _, (by walk_at "sq_1"), ?_⟩)
  | (with_reducible refine ⟨_, _, _, _, _, _, _, _, _, _, rfl, .tup, .tup, ?_⟩) | (with_reducible refine ⟨_, _, _, _, _, _, _, _, _, _, rfl, .tup, .lst, ?_⟩) | (with_reducible refine ⟨_, _, _, _, _, _, _, _, _, _, rfl, .tup, (by walk_at "sq_1"), ?_⟩) | (with_reducible refine ⟨_, _, _, _, _, _, _, _, _, _, rfl, .lst, .tup, ?_⟩) | (with_reducible refine ⟨_, _, _, _, _, _, _, _, _, _, rfl, .lst, .lst, ?_⟩) | (with_reducible refine ⟨_, _, _, _, _, _, _, _, _, _, rfl, .lst, (by walk_at "sq_1"), ?_⟩) | (with_reducible refine ⟨_, _, _, _, _, _, _, _, _, _, rfl, (by walk_at "sq_1"), .tup, ?_⟩) | (with_reducible refine ⟨_, _, _, _, _, _, _, _, _, _, rfl, (by walk_at "sq_1"), .lst, ?_⟩) | (with_reducible refine ⟨_, _, _, _, _, _, _, _, _, _, rfl, (by walk_at "sq_1"), (by walk_at "sq_1"), ?_⟩) | fail)
local macro_rules | `(tactic| walk_at "use_1") => `(tactic| first
  | walk_at "lst_1"
  | (with_reducible refine fld_rows (by assumption) ?_) | (with_reducible refine fld_over (by assumption) ?_) | (with_reducible refine fld_height (by assumption) ?_) | (with_reducible refine fld_width (by assumption) ?_)
  | fail)
local macro_rules | `(tactic| walk_at "sX_1") => `(tactic| first
  | (with_reducible refine ⟨_, rfl, ?_⟩)
  | (with_reducible refine fld_top (by assumption) ?_) | (with_reducible refine fld_bottom (by assumption) ?_)
  | (with_reducible refine ⟨_, .bl, ?_⟩)
  | ((with_reducible refine ⟨?h, ?_⟩); case h => rfl)
  | (with_reducible refine ⟨_, _, rfl, ?_⟩)
  | (with_reducible refine ⟨_, _, _, rfl, ?_⟩)
  | walk_at "use_1"
  | (with_reducible refine setN_top (by assumption) ?_) | (with_reducible refine setN_bottom (by assumption) ?_)
  | ((with_reducible refine ⟨_, _, _, ?j, _, rfl, rfl, .head, ?h, .head, ?_⟩); case h => rfl)
  | fail)
local macro_rules | `(tactic| walk_at "st_1") => `(tactic| first
  | ((with_reducible show We _ _ _ _ _ _); walk_at "sWe_1")
  | ((with_reducible show W2 _ _ _ _ _ _ _ _); walk_at "sW2_1")
  | ((with_reducible show Wa _ _ _ _ _ _); walk_at "sWa_1")
  | ((with_reducible show Ws _ _ _ _ _ _); walk_at "sWs_1")
  | ((with_reducible show Wt _ _ _ _ _ _); walk_at "sWt_1")
  | ((with_reducible show Wc _ _ _ _ _ _ _); walk_at "sWc_1")
  | ((with_reducible show Wi _ _ _ _ _ _); walk_at "sWi_1")
  | ((with_reducible show Wg _ _ _ _ _ _ _); walk_at "sWg_1")
  | ((with_reducible show W1 _ _ _ _ _ _ _); walk_at "sW1_1")
  | ((with_reducible show Wgs _ _ _ _ _ _ _); walk_at "sWgs_1")
  | walk_at "sS_1" | walk_at "sX_1" | fail)
local macro_rules | `(tactic| walk_at "br_1") => `(tactic| ((with_reducible refine ⟨fun hb => ?_, fun hb => ?_⟩) <;> (try simp only [decide_eq_true_eq, decide_eq_false_iff_not, Bool.not_eq_true', Bool.not_eq_false', Bool.and_eq_true, Bool.or_eq_true, reduceCtorEq, List.length_map, Bool.not_true, Bool.not_false, DL.isNon, not_true_eq_false, not_false_eq_true, Classical.not_not, List.all_cons, List.all_nil, id_eq, Bool.and_self, Bool.true_and, decide_true, decide_false] at hb)))
local macro_rules | `(tactic| walk_at "gn_1") => `(tactic| repeat' (first | walk_at "st_1" | walk_at "br_1" | fail))
theorem ok_icol (T : Txt G C_Ratio C_Grid C_BadShape C_BadPlace C_CarryError) (c_pivot_columns : Cal G 2 "pivot_columns" 2 S_pcol []) {f : Addr} {fd : FuncData} (F : L2.Fun G.K "independent_columns" "independent_columns" s_independent_columns f fd) (b : L2.Binds G.K fd ["grid"] []) : Fnx G 3 f 1 (S_icol C_Grid) [] := by
  refine fnx_of F sc_independent_columns rfl b .nil rfl (fun cdv A outer s H FF hr tk => ⟨_, (pss_one (ps_ret (pe_cl c_pivot_columns hr (by decide) tk rfl (pa_cons (pe_fld (pe_var (i := 0) rfl (Or.inl rfl) nd_grid.1 nd_grid.2) rfl) (pa_cons (pe_fld (pe_var (i := 0) rfl (Or.inl rfl) nd_grid.1 nd_grid.2) rfl) pa_nil))))), ?_⟩)
  rintro ds m K E - ⟨h, w, R, o, rfl, g, k⟩
  show Ws _ _ _ [some (gd C_Grid R o w)] _ _
  try dsimp only [cx_G, cx_K]
  have GC := T.D_Grid
  walk_at "gn_1"
  refine use_pcol (A := ce R) (h := h) (w := w) (.inr (by rw [tabR_of g.rc])) g.re fun P j T s pv Rd hpv => ?_
  exact k P j T s pv Rd hpv
theorem ok_rank (T : Txt G C_Ratio C_Grid C_BadShape C_BadPlace C_CarryError) (c_independent_columns : Cal G 3 "independent_columns" 1 (S_icol C_Grid) []) {f : Addr} {fd : FuncData} (F : L2.Fun G.K "rank" "rank" s_rank f fd) (b : L2.Binds G.K fd ["grid"] []) : Fnx G 4 f 1 (S_rank C_Grid) [] := by
  refine fnx_of F sc_rank rfl b .nil rfl (fun cdv A outer s H FF hr tk => ⟨_, (pss_one (ps_ret (pe_cb cs_len rfl T.n_len bt_len (pa_cons (pe_cl c_independent_columns hr (by decide) tk rfl (pa_cons (pe_var (i := 0) rfl (Or.inl rfl) nd_grid.1 nd_grid.2) pa_nil)) pa_nil)))), ?_⟩)
  rintro ds m K E - ⟨h, w, R, o, rfl, g, k⟩
  show Ws _ _ _ [some (gd C_Grid R o w)] _ _
  try dsimp only [cx_G, cx_K]
  have GC := T.D_Grid
  refine ws_ret (we_c2 (wa_cons (we_frz ?_)))
  walk_at "gn_1"
  refine use_icol g fun P j T s pv Rd hpv => ?_
  refine ⟨pv, _, m, rfl, rfl, ?_⟩
  walk_at "gn_1"
  have e : (((pvs j P).length : Nat) : Int) = (j : Int) := by simp [pvs]
  rw [e]
  exact k P j T s Rd
theorem ok_mixt (T : Txt G C_Ratio C_Grid C_BadShape C_BadPlace C_CarryError) (k_Ratio : Mak G 1 "Ratio" C_Ratio 3 (S_init C_Ratio) []) (c_reduced : Cal G 2 "reduced" 2 S_redu []) {f : Addr} {fd : FuncData} (F : L2.Fun G.K "mixture" "mixture" s_mixture f fd) (b : L2.Binds G.K fd ["grid", "column"] []) : Fnx G 3 f 2 (S_mixt C_Grid C_Ratio C_BadPlace) [] := by
  refine fnx_of F sc_mixture rfl b .nil rfl (fun cdv A outer s H FF hr tk => ⟨_, (pss_cons (ps_if (pt_not (pt_ch os_le os_lt pe_int (pe_var (i := 1) rfl (Or.inr (Or.inl rfl)) nd_column.1 nd_column.2) (pe_fld (pe_var (i := 0) rfl (Or.inl rfl) nd_grid.1 nd_grid.2) rfl))) (pss_one (ps_rsS T.x_BadPlace rfl hr (by decide) tk rfl (pa_cons (pe_var (i := 1) rfl (Or.inr (Or.inl rfl)) nd_column.1 nd_column.2) pa_nil))) pss_nil) (pss_cons (ps_asg (pe_cl c_reduced hr (by decide) tk rfl (pa_cons (pe_fld (pe_var (i := 0) rfl (Or.inl rfl) nd_grid.1 nd_grid.2) rfl) (pa_cons (pe_fld (pe_var (i := 0) rfl (Or.inl rfl) nd_grid.1 nd_grid.2) rfl) pa_nil))) (pg_tup rfl (pgs_cons (pg_name (i := 2) sc_mixture.nd rfl (Or.inl rfl)) (pgs_cons (pg_name (i := 3) sc_mixture.nd rfl (Or.inl rfl)) (pgs_cons (pg_name (i := 4) sc_mixture.nd rfl (Or.inr rfl)) pgs_nil))))) (pss_one (ps_ret (pe_lc (own := [("row", 5)]) (g := (gName 5)) (tt := tYes) rfl sc_mixture.nd (pi_seqK (KK := G.K) (by rfl) (pe_var (i := 3) rfl (Or.inl rfl) nd_table.1 nd_table.2)) (blkOk_by (N := N_mixture) (sc := (defScope s_mixture)) (by decide +kernel)) (fun _ _ _ _ _ => (pg_name (i := 5) sc_mixture.nd rfl (Or.inl rfl))) (fun _ _ _ _ _ => pts_nil) (fun _ _ _ _ _ => (pe_mak k_Ratio hr (by decide) takes0N rfl (pa_cons (pe_ix (r := rIx G.K) ix_seq (pe_var (i := 5) rfl (Or.inl rfl) nd_row.1 nd_row.2) (pe_var (i := 1) rfl (Or.inr (Or.inl rfl)) nd_column.1 nd_column.2) (fun _ _ => rfl)) (pa_cons (pe_var (i := 4) rfl (Or.inr (Or.inl rfl)) nd_scale.1 nd_scale.2) pa_nil))))))))), ?_⟩)
  rintro ds m K E - ⟨h, w, R, o, c, rfl, g, k0, k1⟩
  show Ws _ _ _ [some (gd C_Grid R o w), some (.int c), none, none, none, none] _ _
  try dsimp only [cx_G, cx_K]
  have GC := T.D_Grid
  have hh := g.hh
  have hw := g.hw
  walk_at "gn_1"
  refine ws_if ?_
  walk_at "gn_1"
  all_goals try exact k0 (fun z => by omega)
  obtain ⟨j, rfl⟩ := Int.eq_ofNat_of_zero_le ‹0 ≤ c›
  have hj : j < w := by have := ‹(j : Int) < (w : Int)›; omega
  refine use_redu (A := ce R) (h := h) (w := w) (.inr (by rw [tabR_of g.rc])) g.re fun P k T s Rd => ?_
  obtain ⟨kh, s0, sb, tb⟩ := Rd.sz (Nat.le_refl w) (by omega) g.re.sz
  have kk : k * (40 + 66) ≤ 5 * 106 := Nat.mul_le_mul (by omega) (by decide)
  walk_at "gn_1"
  refine we_lcM (α := Nat) (fun i => li ((List.range w).map fun q => T i q)) (fun i => rq C_Ratio (dv (T i j) s)) (gk_name (by decide)) (wi_seq (we_var rfl ⟨[], _, .lst, List.range k, ?_, Nat.ble_eq_true_of_le (by rw [List.length_range]; omega), fun i hi q => wg_name ?_, fun tp htp => ?_⟩))
  · rw [tabR, List.map_map]
    rfl
  · walk_at "gn_1"
    all_goals try (rw [List.length_map, List.length_range]; exact hj)
    rw [range_at' hj]
    exact ⟨s0, sb.mono (by omega), ⟨rfl, rfl⟩⟩
  · exact k1 j rfl hj P k T s tp Rd htp
end
end K10
set_option Elab.async false
set_option linter.all false
set_option maxRecDepth 100000
set_option maxHeartbeats 4000000
namespace K10
open PySem PySem.Spec L2 DL
open PyProof.Rows hiding St
/-! one step, by the goal's head -/

/-! comprehensions, sums, lists of others -/

/-! lists that may be written -/

section
variable {G : Gx} {C_Ratio C_Grid C_BadShape C_BadPlace C_CarryError : Addr}
def S_number : SpecD := fun ds m K _ => ∃ p many shift m0, ds = [.ref p, .int many, .int shift] ∧ 0 < many ∧ Bd 100 many ∧ PotM p m0 m ∧ ∀ v m', -(many / 2) ≤ v → v < many - many / 2 → PotM p m0 m' → K (.int v) m'
theorem use_number {p : Addr} {many shift : Int} {m m0 : Mu} {K : KT} {E : Ex → Mu → Prop} (h0 : 0 < many) (hb : Bd 100 many) (hm : PotM p m0 m) (k : ∀ v m', -(many / 2) ≤ v → v < many - many / 2 → PotM p m0 m' → K (.int v) m') : S_number [.ref p, .int many, .int shift] m K E := ⟨p, many, shift, m0, rfl, h0, hb, hm, k⟩
local macro_rules | `(tactic| walk_at "fld_1") => `(tactic| (with_reducible refine we_fldF ?_))
local macro_rules | `(tactic| walk_at "useWe_1") => `(tactic| first
  | ((with_reducible apply we_lcs); case gk => first | exact gk_name rfl | exact gk_tup (gks_cons (gk_name rfl) (gks_cons (gk_name rfl) gks_nil)))
  | (with_reducible refine we_slPre ?_) | (with_reducible refine we_slSuf ?_) | (with_reducible refine we_app ?_) | (with_reducible refine we_mt ?_) | (with_reducible refine we_grd ?_) | (with_reducible refine we_ratQ ?_) | (with_reducible refine we_ratQ1 ?_) | fail)
local macro_rules | `(tactic| walk_at "sWe_1") => `(tactic| first
  | ((with_reducible refine we_var (d := ?d) ?hv ?hk); case hv => rfl)
  | (with_reducible first
    | refine we_cint ?_ | refine we_2 ?_ | refine we_cl0 ?_ | refine we_tup ?_ | refine we_1 ?_ | refine we_c2 ?_ | refine we_cbl ?_ | refine we_cnon ?_ | refine we_cty ?_ | refine we_cref ?_
    | refine we_op ?_ | refine we_andV ?_ | refine we_orV ?_ | refine we_notV ?_ | refine we_3 ?_ | refine we_ifx ?_ | refine we_cstr ?_ | refine we_clH ?_)
  | walk_at "fld_1"
  | walk_at "useWe_1")
local macro_rules | `(tactic| walk_at "useW2_1") => `(tactic| first
  | (with_reducible refine w2_eqRN ?_) | (with_reducible refine w2_eqLN ?_) | (with_reducible refine w2_eqLli ?_) | (with_reducible refine w2_eqLi ?_)
  | (with_reducible refine w2_ixT ⟨ix_map0 ?_, ?_⟩) | (with_reducible refine w2_ixL ⟨ix_map0 ?_, ?_⟩) | (with_reducible refine w2_ixT ⟨ix_map ?_, ?_⟩) | (with_reducible refine w2_ixL ⟨ix_map ?_, ?_⟩)
  | (with_reducible refine w2_addO (by assumption) (by decide) .fixed .fixed ?_) | (with_reducible refine w2_subO (by assumption) (by decide) .fixed .fixed ?_) | (with_reducible refine w2_mulO (by assumption) (by decide) .fixed .fixed ?_) | (with_reducible refine w1_negO (by assumption) (by decide) .fixed ?_)
  | (with_reducible refine w2_catL .lst .lst ?_ ?_) | fail)
local macro_rules | `(tactic| walk_at "sW2_1") => `(tactic| first
  | (with_reducible first
    | refine w2_add ?_ | refine w2_sub ?_ | refine w2_mul ⟨?_, ?_⟩ | refine w2_fdiv ⟨?_, ?_⟩ | refine w2_mod ⟨?_, ?_⟩ | refine w2_pow ⟨?_, ?_⟩ | refine w2_eqI ?_ | refine w2_neI ?_ | refine w2_lt ?_ | refine w2_le ?_ | refine w2_gt ?_ | refine w2_ge ?_ | refine w2_eqFI ?_ | refine w2_neFI ?_)
  | ((with_reducible refine w2_ixT (d := ?d) ⟨?hv, ?hk⟩); case hv => rfl)
  | ((with_reducible refine w2_ixL (d := ?d) ⟨?hv, ?hk⟩); case hv => rfl)
  | ((with_reducible refine w2_ixM (d := ?d) .head ⟨?hv, ?hk⟩); case hv => rfl)
  | (with_reducible first
    | refine w2_eqIH ?_ | refine w2_neIH ?_ | refine w2_mulH ⟨?_, ?_⟩ | refine w2_addH ?_ | refine w2_subH ?_ | refine w2_isN ?_ | refine w2_notN ?_ | refine w2_isB ?_ | refine w2_notB ?_)
  | walk_at "useW2_1")
local macro_rules | `(tactic| walk_at "sWa_1") => `(tactic| with_reducible first | refine wa_nil ?_ | refine wa_cons ?_)
local macro_rules | `(tactic| walk_at "useWs_1") => `(tactic| first | (with_reducible refine ws_rs0 ?_) | (with_reducible refine ws_rs ?_) | fail)
local macro_rules | `(tactic| walk_at "sWs_1") => `(tactic| first
  | (with_reducible first | refine ws_seq ?_ | refine ws_ret ?_ | refine ws_asg ?_ | refine ws_next ?_ | refine ws_drop ?_ | refine ws_par ?_ | refine ws_par3 ?_ | refine ws_fldN ?_ | refine ws_brk ?_ | refine ws_cont ?_)
  | walk_at "useWs_1")
local macro_rules | `(tactic| walk_at "sWt_1") => `(tactic| with_reducible first | refine wt_test ?_ | refine wt_tr ?_ | refine wt_and ?_ | refine wt_or ?_ | refine wt_not ?_)
local macro_rules | `(tactic| walk_at "useWc_1") => `(tactic| first
  | (with_reducible refine wc_len (LstM.len (by assumption)) ?_) | (with_reducible refine wc_len (SeqM.len (by assumption)) ?_) | (with_reducible refine wc_sumG ?_) | (with_reducible refine wc_sumI ?_) | (with_reducible refine wc_tupleL .tup ?_) | (with_reducible refine wc_tupleL .lst ?_) | (with_reducible refine wc_listF .tup ?_) | (with_reducible refine wc_listF .lst ?_) | fail)
local macro_rules | `(tactic| walk_at "sWc_1") => `(tactic| first
  | (with_reducible first | refine wc_int ?_ | refine wc_abs ?_ | refine wc_min ?_ | refine wc_gcd ?_ | refine wc_isiT .int kit_ii ?_ | refine wc_isiT .int kit_ib ?_ | refine wc_len .lst ?_ | refine wc_len .tup ?_ | refine wc_strI ?_ ?_)
  | walk_at "useWc_1")
local macro_rules | `(tactic| walk_at "sWi_1") => `(tactic| with_reducible first | refine wi_seq ?_ | refine wi_rng1S ?_ | refine wi_rng2 ?_ | refine wi_zipM ?_)
local macro_rules | `(tactic| walk_at "sWg_1") => `(tactic| with_reducible first | refine wg_name ?_ | refine wg_subM ?_ | refine wg_tup rfl ?_)
local macro_rules | `(tactic| walk_at "sW1_1") => `(tactic| first | (with_reducible refine w1_neg ?_) | walk_at "useW2_1")
local macro_rules | `(tactic| walk_at "sWgs_1") => `(tactic| with_reducible first | refine wgs_cons ?_ | refine wgs_nil ?_)
local macro_rules | `(tactic| walk_at "sS_1") => `(tactic| first | (with_reducible refine SlA.mk ?_ ?_) | (with_reducible refine RngA.mk ?_ ?_) | (with_reducible refine LcS.mk ?_ (fun a ha q => ?_) ?_) | (with_reducible exact LcL.mk rfl rfl) | fail)
local macro_rules | `(tactic| walk_at "sq_1") => `(tactic| first | assumption | exact SeqM.cons (by assumption) | exact SeqM.cons (SeqM.cons (by assumption)))
local macro_rules | `(tactic| walk_at "lst_1") => `(tactic| first
  | (with_reducible refine ⟨_, _, rfl, .head, ?_⟩) | (with_reducible refine ⟨_, _, _, rfl, .head, ?_, .head, ?_⟩) | (with_reducible refine ⟨_, _, .tup, ?_⟩) | (with_reducible refine ⟨_, _, .lst, ?_⟩) | (with_reducible refine ⟨_, _, (by walk_at "sq_1"), ?_⟩)
  | (with_reducible refine ⟨_, _, _, _, _, _, _, _, _, _, rfl, .tup, .tup, ?_⟩) | (with_reducible refine ⟨_, _, _, _, _, _, _, _, _, _, rfl, .tup, .lst, ?_⟩) | (with_reducible refine ⟨_, _, _, _, _, _, _, _, _, _, rfl, .tup, (by walk_at "sq_1"), ?_⟩) | (with_reducible refine ⟨_, _, _, _, _, _, _, _, _, _, rfl, .lst, .tup, ?_⟩) | (with_reducible refine ⟨_, _, _, _, _, _, _, _, _, _, rfl, .lst, .lst, ?_⟩) | (with_reducible refine ⟨_, _, _, _, _, _, _, _, _, _, rfl, .lst, (by walk_at "sq_1"), ?_⟩) | (with_reducible refine ⟨_, _, _, _, _, _, _, _, _, _, rfl, (by walk_at "sq_1"), .tup, ?_⟩) | (with_reducible refine ⟨_, _, _, _, _, _, _, _, _, _, rfl, (by walk_at "sq_1"), .lst, ?_⟩) | (with_reducible refine ⟨_, _, _, _, _, _, _, _, _, _, rfl, (by walk_at "sq_1"), (by walk_at "sq_1"), ?_⟩) | fail)
local macro_rules | `(tactic| walk_at "use_1") => `(tactic| first | walk_at "lst_1" | (with_reducible refine use_digit ?_ ?_ (by assumption) fun dg m' d0 d1 hpm => ?_) | fail)
local macro_rules | `(tactic| walk_at "sX_1") => `(tactic| first
  | (with_reducible refine ⟨_, rfl, ?_⟩)
  | (with_reducible refine fld_top (by assumption) ?_) | (with_reducible refine fld_bottom (by assumption) ?_)
  | (with_reducible refine ⟨_, .bl, ?_⟩)
  | ((with_reducible refine ⟨?h, ?_⟩); case h => rfl)
  | (with_reducible refine ⟨_, _, rfl, ?_⟩)
  | (with_reducible refine ⟨_, _, _, rfl, ?_⟩)
  | walk_at "use_1"
  | (with_reducible refine setN_top (by assumption) ?_) | (with_reducible refine setN_bottom (by assumption) ?_)
  | ((with_reducible refine ⟨_, _, _, ?j, _, rfl, rfl, .head, ?h, .head, ?_⟩); case h => rfl)
  | fail)
local macro_rules | `(tactic| walk_at "st_1") => `(tactic| first
  | ((with_reducible show We _ _ _ _ _ _); walk_at "sWe_1")
  | ((with_reducible show W2 _ _ _ _ _ _ _ _); walk_at "sW2_1")
  | ((with_reducible show Wa _ _ _ _ _ _); walk_at "sWa_1")
  | ((with_reducible show Ws _ _ _ _ _ _); walk_at "sWs_1")
  | ((with_reducible show Wt _ _ _ _ _ _); walk_at "sWt_1")
  | ((with_reducible show Wc _ _ _ _ _ _ _); walk_at "sWc_1")
  | ((with_reducible show Wi _ _ _ _ _ _); walk_at "sWi_1")
  | ((with_reducible show Wg _ _ _ _ _ _ _); walk_at "sWg_1")
  | ((with_reducible show W1 _ _ _ _ _ _ _); walk_at "sW1_1")
  | ((with_reducible show Wgs _ _ _ _ _ _ _); walk_at "sWgs_1")
  | walk_at "sS_1" | walk_at "sX_1" | fail)
local macro_rules | `(tactic| walk_at "wif_1") => `(tactic| (with_reducible refine ws_if ?_))
local macro_rules | `(tactic| walk_at "br_1") => `(tactic| ((with_reducible refine ⟨fun hb => ?_, fun hb => ?_⟩) <;> (try simp only [decide_eq_true_eq, decide_eq_false_iff_not, Bool.not_eq_true', Bool.not_eq_false', Bool.and_eq_true, Bool.or_eq_true, reduceCtorEq, List.length_map, Bool.not_true, Bool.not_false, DL.isNon, not_true_eq_false, not_false_eq_true, Classical.not_not, List.all_cons, List.all_nil, id_eq, Bool.and_self, Bool.true_and, decide_true, decide_false] at hb)))
local macro_rules | `(tactic| walk_at "go_1") => `(tactic| repeat' (first | walk_at "st_1" | walk_at "wif_1" | walk_at "br_1" | fail))
local macro_rules | `(tactic| walk_at "gn_1") => `(tactic| repeat' (first | walk_at "st_1" | walk_at "br_1" | fail))
theorem ok_number (T : Txt G C_Ratio C_Grid C_BadShape C_BadPlace C_CarryError) (c__law_digit : Cal G 1 "_law_digit" 2 S_digit []) {f : Addr} {fd : FuncData} (F : L2.Fun G.K "_law_number" "_law_number" s__law_number f fd) (b : L2.Binds G.K fd ["pot", "many", "shift"] []) : Fnx G 2 f 3 S_number [] := by
  refine fnx_of F sc__law_number rfl b .nil rfl (fun cdv A outer s H FF hr tk => ⟨_, (pss_one (ps_ret (pe_bin (os_sub hr tk) (pe_bin os_mod (pe_ct cs_int rfl T.n_int bt_int (pa_cons (pe_bin (os_add hr tk) (pe_bin (os_add hr tk) (pe_cl c__law_digit hr (by decide) tk rfl (pa_cons (pe_var (i := 0) rfl (Or.inl rfl) nd_pot.1 nd_pot.2) (pa_cons (pe_var (i := 1) rfl (Or.inl rfl) nd_many.1 nd_many.2) pa_nil))) (pe_var (i := 2) rfl (Or.inl rfl) nd_shift.1 nd_shift.2)) (pe_bin os_fdiv (pe_var (i := 1) rfl (Or.inl rfl) nd_many.1 nd_many.2) pe_int)) pa_nil)) (pe_var (i := 1) rfl (Or.inl rfl) nd_many.1 nd_many.2)) (pe_bin os_fdiv (pe_var (i := 1) rfl (Or.inl rfl) nd_many.1 nd_many.2) pe_int)))), ?_⟩)
  rintro ds m K E - ⟨p, many, shift, m0, rfl, h0, hb, hm, k⟩
  show Ws _ _ _ [some (.ref p), some (.int many), some (.int shift)] _ _
  dsimp only [cx_G, cx_K]
  have md : ∀ z : Int, z.fmod many = z % many := fun z => Int.fmod_eq_emod_of_nonneg _ (by omega)
  have dd : many.fdiv 2 = many / 2 := Int.fdiv_eq_ediv_of_nonneg _ (by omega)
  have k' : ∀ (z : Int) (m' : Mu), PotM p m0 m' → K (.int (z.fmod many - many.fdiv 2)) m' := fun z m' q => by
    have h1 := Int.emod_nonneg z (show many ≠ 0 by omega)
    have h2 := Int.emod_lt_of_pos z h0
    exact k _ _ (by rw [md, dd]; omega) (by rw [md, dd]; omega) q
  walk_at "go_1"
  all_goals first
    | omega
    | exact hb.mono (by decide)
    | exact (show Bd 3 2 from bd_lit (by decide)).divX (by decide) (by decide)
    | exact k' _ _ ‹_›
/-! lists of numbers -/
def S_more : SpecD := fun ds m K _ => ∃ (h : Nat) (f g : Nat → Int) (t : Int), ds = [li ((List.range h).map f), li ((List.range h).map g), .int t] ∧ h ≤ 5 ∧ Bd 100 t ∧ (∀ i, i < h → Bd 100 (f i)) ∧ (∀ i, i < h → Bd 100 (g i)) ∧ K (li ((List.range h).map fun i => f i + t * g i)) m
theorem use_more {h : Nat} {f g : Nat → Int} {t : Int} {m : Mu} {K : KT} {E : Ex → Mu → Prop} (hh : h ≤ 5) (tb : Bd 100 t) (fb : ∀ i, i < h → Bd 100 (f i)) (gb : ∀ i, i < h → Bd 100 (g i)) (k : K (li ((List.range h).map fun i => f i + t * g i)) m) : S_more [li ((List.range h).map f), li ((List.range h).map g), .int t] m K E := ⟨h, f, g, t, rfl, hh, tb, fb, gb, k⟩
theorem ok_more (T : Txt G C_Ratio C_Grid C_BadShape C_BadPlace C_CarryError) {f : Addr} {fd : FuncData} (F : L2.Fun G.K "_law_more" "_law_more" s__law_more f fd) (b : L2.Binds G.K fd ["x", "y", "times"] []) : Fnx G 1 f 3 S_more [] := by
  refine fnx_of F sc__law_more rfl b .nil rfl (fun cdv A outer s H FF hr tk => ⟨_, (pss_one (ps_ret (pe_lc (own := [("i", 3)]) (g := (gName 3)) (tt := tYes) rfl sc__law_more.nd (pi_range1 rfl T.n_range (pa_cons (pe_cb cs_len rfl T.n_len bt_len (pa_cons (pe_var (i := 0) rfl (Or.inr (Or.inl rfl)) nd_x.1 nd_x.2) pa_nil)) pa_nil)) (blkOk_by (N := N__law_more) (sc := (defScope s__law_more)) (by decide +kernel)) (fun _ _ _ _ _ => (pg_name (i := 3) sc__law_more.nd rfl (Or.inl rfl))) (fun _ _ _ _ _ => pts_nil) (fun _ _ _ _ _ => (pe_bin (o := oAdd G _ wNo) (os_add (by exact hr) takes0N) (pe_ix (r := rIx G.K) ix_seq (pe_var (i := 0) rfl (Or.inr (Or.inl rfl)) nd_x.1 nd_x.2) (pe_var (i := 3) rfl (Or.inl rfl) nd_i.1 nd_i.2) (fun _ _ => rfl)) (pe_bin (o := oMul G _ wNo) (os_mul (by exact hr) takes0N) (pe_var (i := 2) rfl (Or.inr (Or.inl rfl)) nd_times.1 nd_times.2) (pe_ix (r := rIx G.K) ix_seq (pe_var (i := 1) rfl (Or.inr (Or.inl rfl)) nd_y.1 nd_y.2) (pe_var (i := 3) rfl (Or.inl rfl) nd_i.1 nd_i.2) (fun _ _ => rfl)))))))), ?_⟩)
  rintro ds m K E - ⟨h, f, g, t, rfl, hh, tb, fb, gb, k⟩
  show Ws _ _ _ [some (li ((List.range h).map f)), some (li ((List.range h).map g)), some (.int t), none] _ _
  try dsimp only [cx_G, cx_K]
  have hi : (((((List.range h).map f).map D.int).length : Nat) : Int) = (h : Int) := by simp
  have hn : ((((((List.range h).map f).map D.int).length : Nat) : Int)).toNat = h := by simp
  have hm : ∀ {a : Nat}, a ∈ List.range ((((((List.range h).map f).map D.int).length : Nat) : Int)).toNat → a < h := fun z => by
    rw [hn] at z
    exact List.mem_range.mp z
  refine ws_ret ?_
  refine we_lcs (α := Nat) (fun i => .int (i : Int)) (fun i => .int (f i + t * g i)) (gk_name (by decide)) (wi_rng1S ?_)
  walk_at "gn_1"
  all_goals try first
    | (rw [hi]; exact rngB (by omega))
    | exact Nat.ble_eq_true_of_le (by rw [List.length_range, hn]; omega)
    | (rw [List.length_map, List.length_range]; first | assumption | exact hm ‹_›)
    | (rw [range_at' (hm ‹_›)]; exact tb.mulX (gb _ (hm ‹_›)) (by decide))
    | (refine ⟨?_, rfl⟩; simp only [range_at' (hm ‹_›)])
  rw [hn]
  have e : li ((List.range h).map fun i => f i + t * g i) = .lst ((List.range h).map fun i => .int (f i + t * g i)) := by
    unfold li
    rw [List.map_map]
    rfl
  rw [e] at k
  exact k
def S_lclr : SpecD := fun ds m K _ => ∃ (h a b : Nat) (f g : Nat → Int), ds = [li ((List.range h).map f), li ((List.range h).map g), .int (a : Nat)] ∧ h ≤ 5 ∧ a < h ∧ b ≤ 4000 ∧ (∀ i, i < h → Bd b (f i)) ∧ (∀ i, i < h → Bd b (g i)) ∧ K (li ((List.range h).map fun i => f i * g a - g i * f a)) m
theorem use_lclr {h a b : Nat} {f g : Nat → Int} {m : Mu} {K : KT} {E : Ex → Mu → Prop} (hh : h ≤ 5) (ha : a < h) (hb : b ≤ 4000) (fb : ∀ i, i < h → Bd b (f i)) (gb : ∀ i, i < h → Bd b (g i)) (k : K (li ((List.range h).map fun i => f i * g a - g i * f a)) m) : S_lclr [li ((List.range h).map f), li ((List.range h).map g), .int (a : Nat)] m K E := ⟨h, a, b, f, g, rfl, hh, ha, hb, fb, gb, k⟩
theorem ok_lclr (T : Txt G C_Ratio C_Grid C_BadShape C_BadPlace C_CarryError) {f : Addr} {fd : FuncData} (F : L2.Fun G.K "_law_cleared" "_law_cleared" s__law_cleared f fd) (b : L2.Binds G.K fd ["x", "y", "at"] []) : Fnx G 1 f 3 S_lclr [] := by
  refine fnx_of F sc__law_cleared rfl b .nil rfl (fun cdv A outer s H FF hr tk => ⟨_, (pss_cons (ps_set (i := 3) sc__law_cleared.nd rfl (Or.inr rfl) (pe_ix ix_seq (pe_var (i := 1) rfl (Or.inr (Or.inl rfl)) nd_y.1 nd_y.2) (pe_var (i := 2) rfl (Or.inl rfl) nd_at.1 nd_at.2) (fun _ _ => rfl))) (pss_cons (ps_set (i := 4) sc__law_cleared.nd rfl (Or.inr rfl) (pe_ix ix_seq (pe_var (i := 0) rfl (Or.inr (Or.inl rfl)) nd_x.1 nd_x.2) (pe_var (i := 2) rfl (Or.inl rfl) nd_at.1 nd_at.2) (fun _ _ => rfl))) (pss_one (ps_ret (pe_lc (own := [("i", 5)]) (g := (gName 5)) (tt := tYes) rfl sc__law_cleared.nd (pi_range1 rfl T.n_range (pa_cons (pe_cb cs_len rfl T.n_len bt_len (pa_cons (pe_var (i := 0) rfl (Or.inr (Or.inl rfl)) nd_x.1 nd_x.2) pa_nil)) pa_nil)) (blkOk_by (N := N__law_cleared) (sc := (defScope s__law_cleared)) (by decide +kernel)) (fun _ _ _ _ _ => (pg_name (i := 5) sc__law_cleared.nd rfl (Or.inl rfl))) (fun _ _ _ _ _ => pts_nil) (fun _ _ _ _ _ => (pe_bin (o := oSub G _ wNo) (os_sub (by exact hr) takes0N) (pe_bin (o := oMul G _ wNo) (os_mul (by exact hr) takes0N) (pe_ix (r := rIx G.K) ix_seq (pe_var (i := 0) rfl (Or.inr (Or.inl rfl)) nd_x.1 nd_x.2) (pe_var (i := 5) rfl (Or.inl rfl) nd_i.1 nd_i.2) (fun _ _ => rfl)) (pe_var (i := 3) rfl (Or.inr (Or.inl rfl)) nd_u.1 nd_u.2)) (pe_bin (o := oMul G _ wNo) (os_mul (by exact hr) takes0N) (pe_ix (r := rIx G.K) ix_seq (pe_var (i := 1) rfl (Or.inr (Or.inl rfl)) nd_y.1 nd_y.2) (pe_var (i := 5) rfl (Or.inl rfl) nd_i.1 nd_i.2) (fun _ _ => rfl)) (pe_var (i := 4) rfl (Or.inr (Or.inl rfl)) nd_v.1 nd_v.2))))))))), ?_⟩)
  rintro ds m K E - ⟨h, a, b, f, g, rfl, hh, ha, hb, fb, gb, k⟩
  show Ws _ _ _ [some (li ((List.range h).map f)), some (li ((List.range h).map g)), some (.int (a : Nat)), none, none, none] _ _
  try dsimp only [cx_G, cx_K]
  have hi : (((((List.range h).map f).map D.int).length : Nat) : Int) = (h : Int) := by simp
  have hn : ((((((List.range h).map f).map D.int).length : Nat) : Int)).toNat = h := by simp
  have hm : ∀ {a : Nat}, a ∈ List.range ((((((List.range h).map f).map D.int).length : Nat) : Int)).toNat → a < h := fun z => by
    rw [hn] at z
    exact List.mem_range.mp z
  walk_at "gn_1"
  all_goals try first
    | (rw [hi]; exact rngB (by omega))
    | exact Nat.ble_eq_true_of_le (by rw [List.length_range, hn]; omega)
    | (rw [List.length_map, List.length_range]; first | assumption | exact hm ‹_›)
    | (rw [range_at' (hm ‹_›), range_at' ha]; exact ((fb _ (hm ‹_›)).mono hb).mulX ((gb _ ha).mono hb) (by decide))
    | (rw [range_at' (hm ‹_›), range_at' ha]; exact ((gb _ (hm ‹_›)).mono hb).mulX ((fb _ ha).mono hb) (by decide))
    | exact ⟨rfl, rfl⟩
  rw [hn]
  have e : li ((List.range h).map fun i => f i * g a - g i * f a) = .lst ((List.range h).map fun i => .int (((List.range h).map f)[i]! * ((List.range h).map g)[a]! - ((List.range h).map g)[i]! * ((List.range h).map f)[a]!)) := by
    unfold li
    rw [List.map_map]
    congr 1
    refine List.map_congr_left fun i hi => ?_
    have hi' := List.mem_range.mp hi
    show D.int _ = D.int _
    rw [range_at' hi', range_at' hi', range_at' ha, range_at' ha]
  rw [e] at k
  exact k
/-! plain tests -/
def S_whole : SpecD := fun ds m K _ => ∃ i : Int, ds = [.int i] ∧ K (.bl true) m
theorem use_whole {i : Int} {m : Mu} {K : KT} {E : Ex → Mu → Prop} (k : K (.bl true) m) : S_whole [.int i] m K E := ⟨i, rfl, k⟩
theorem ok_whole (T : Txt G C_Ratio C_Grid C_BadShape C_BadPlace C_CarryError) {f : Addr} {fd : FuncData} (F : L2.Fun G.K "_law_whole" "_law_whole" s__law_whole f fd) (b : L2.Binds G.K fd ["told"] []) : Fnx G 1 f 1 S_whole [] := by
  refine fnx_of F sc__law_whole rfl b .nil rfl (fun cdv A outer s H FF hr tk => ⟨_, (pss_one (ps_ret (pe_and (pe_cb cs_isi rfl T.n_isinstance bt_isinstance (pa_cons (pe_var (i := 0) rfl (Or.inl rfl) nd_told.1 nd_told.2) (pa_cons (pe_bltn (v := .ty "int") rfl T.n_int bt_int rfl) pa_nil))) (pe_one (pe_not (pe_cb cs_isi rfl T.n_isinstance bt_isinstance (pa_cons (pe_var (i := 0) rfl (Or.inl rfl) nd_told.1 nd_told.2) (pa_cons (pe_bltn (v := .ty "bool") rfl T.n_bool bt_bool rfl) pa_nil)))))))), ?_⟩)
  rintro ds m K E - ⟨i, rfl, k⟩
  show Ws _ _ _ [some (.int i)] _ _
  try dsimp only [cx_G, cx_K]
  walk_at "go_1"
  exact k
theorem okH_whole (T : Txt G C_Ratio C_Grid C_BadShape C_BadPlace C_CarryError) {f : Addr} {fd : FuncData} (F : L2.Fun G.K "_law_whole" "_law_whole" s__law_whole f fd) (hm : G.mg "_law_whole" = some (.ref f)) (b : L2.Binds G.K fd ["told"] []) : CalH G 1 "_law_whole" 1 S_whole := by
  refine calH_of F hm sc__law_whole rfl b (fun cdv A outer s H FF p hot hr tk => ⟨_, (pss_one (ps_ret (pe_and (pe_cb cs_isi rfl T.n_isinstance bt_isinstance (pa_cons (pe_var (i := 0) rfl (Or.inl rfl) nd_told.1 nd_told.2) (pa_cons (pe_bltn (v := .ty "int") rfl T.n_int bt_int rfl) pa_nil))) (pe_one (pe_not (pe_cb cs_isi rfl T.n_isinstance bt_isinstance (pa_cons (pe_var (i := 0) rfl (Or.inl rfl) nd_told.1 nd_told.2) (pa_cons (pe_bltn (v := .ty "bool") rfl T.n_bool bt_bool rfl) pa_nil)))))))), ?_⟩)
  rintro ds m K E - ⟨i, rfl, k⟩
  show Ws _ _ _ [some (.int i)] _ _
  try dsimp only [cxH_G, cxH_K]
  walk_at "go_1"
  exact k
def S_islist : SpecD := fun ds m K _ => ∃ xs ys : List Int, ds = [li xs, li ys] ∧ xs.length ≤ 100 ∧ K (.bl (decide (xs = ys))) m
theorem use_islist {xs ys : List Int} {m : Mu} {K : KT} {E : Ex → Mu → Prop} (h : xs.length ≤ 100) (k : K (.bl (decide (xs = ys))) m) : S_islist [li xs, li ys] m K E := ⟨xs, ys, rfl, h, k⟩
theorem ok_islist (T : Txt G C_Ratio C_Grid C_BadShape C_BadPlace C_CarryError) (c__law_whole : Cal G 1 "_law_whole" 1 S_whole []) {f : Addr} {fd : FuncData} (F : L2.Fun G.K "_law_is_list" "_law_is_list" s__law_is_list f fd) (b : L2.Binds G.K fd ["told", "places"] []) : Fnx G 2 f 2 S_islist [] := by
  refine fnx_of F sc__law_is_list rfl b .nil rfl (fun cdv A outer s H FF hr tk => ⟨_, (pss_cons (ps_if (PW.pt (pw_or (pt_not (pt_tr (pe_cb cs_isi rfl T.n_isinstance bt_isinstance (pa_cons (pe_var (i := 0) rfl (Or.inl rfl) nd_told.1 nd_told.2) (pa_cons (pe_bltn (v := .ty "list") rfl T.n_list bt_list rfl) pa_nil))))) (pw_or1 (pt_not (pt_tr (pe_cb (cs_all rfl) rfl T.n_all bt_all (pa_cons (pe_lc (own := [("one", 2)]) (g := (gName 2)) (tt := tYes) rfl sc__law_is_list.nd (pi_seqK (KK := G.K) (by rfl) (pe_var (i := 0) rfl (Or.inl rfl) nd_told.1 nd_told.2)) (blkOk_by (N := N__law_is_list) (sc := (defScope s__law_is_list)) (by decide +kernel)) (fun _ _ _ _ _ => (pg_name (i := 2) sc__law_is_list.nd rfl (Or.inl rfl))) (fun _ _ _ _ _ => pts_nil) (fun _ _ _ _ _ => (pe_cl c__law_whole hr (by decide) takes0N rfl (pa_cons (pe_var (i := 2) rfl (Or.inl rfl) nd_one.1 nd_one.2) pa_nil)))) pa_nil))))))) (pss_one (ps_ret pe_bl)) pss_nil) (pss_one (ps_ret (pe_cm (os_eqF hr tk) (pe_var (i := 0) rfl (Or.inl rfl) nd_told.1 nd_told.2) (pe_var (i := 1) rfl (Or.inl rfl) nd_places.1 nd_places.2) (nomark _))))), ?_⟩)
  rintro ds m K E - ⟨xs, ys, rfl, hl, k⟩
  show Ws _ _ _ [some (li xs), some (li ys), none] _ _
  try dsimp only [cx_G, cx_K]
  walk_at "gn_1"
  refine ws_if ?_
  walk_at "gn_1"
  refine wc_isiT .lst (b := true) (kit_ty (by decide +kernel)) ?_
  walk_at "gn_1"
  · exact Nat.ble_eq_true_of_le (by omega)
  · refine use_whole ?_
    exact LcL.mk (f := fun _ => D.bl true) rfl rfl
  · refine wc_all (bs := xs.map fun _ => true) (by rw [List.map_map]; rfl) ?_
    rw [show ((xs.map fun _ => true).all id) = true by simp]
    walk_at "gn_1"
    exact k
end
end K10
set_option Elab.async false
set_option linter.all false
set_option maxRecDepth 100000
set_option maxHeartbeats 4000000
namespace K10
open PySem PySem.Spec L2 DL
open PyProof.Rows hiding St
/-! one step, by the goal's head -/

/-! comprehensions, sums, lists of others -/

/-! lists that may be written -/

/-! the law's table, column by column -/
def Mg (c : Nat) (x : Int) : Prop := x.natAbs ≤ 10 ^ 9 * 4 ^ c
/-- less than that -/
def Ml (c : Nat) (x : Int) : Prop := x.natAbs ≤ 10 ^ 9 * (4 ^ c - 1)
theorem Ml.mg {c : Nat} {x : Int} (h : Ml c x) : Mg c x := by
  unfold Ml at h
  unfold Mg
  rw [Nat.mul_sub] at h
  omega
theorem Mg.up {c d : Nat} {x : Int} (h : Mg c x) (l : c ≤ d) : Mg d x := by
  unfold Mg at *
  have : 4 ^ c ≤ 4 ^ d := Nat.pow_le_pow_right (by decide) l
  exact Nat.le_trans h (Nat.mul_le_mul_left _ this)
theorem Mg.bd {c : Nat} {x : Int} (h : Mg c x) (l : c ≤ 5) : Bd 40 x := by
  have := h.up l
  unfold Mg at this
  unfold Bd
  omega
theorem Ml.bd {c : Nat} {x : Int} (h : Ml c x) (l : c ≤ 5) : Bd 40 x := h.mg.bd l
theorem Ml.step {c : Nat} {x y t : Int} (h : Ml c x) (k : Mg c y) (ht : t.natAbs ≤ 3) : Ml (c + 1) (x + t * y) := by
  unfold Ml Mg at *
  have p : 1 ≤ 4 ^ c := Nat.one_le_pow _ _ (by decide)
  have e : 4 ^ (c + 1) = 4 ^ c * 4 := Nat.pow_succ _ _
  have a := Int.natAbs_add_le x (t * y)
  rw [Int.natAbs_mul] at a
  have b : t.natAbs * y.natAbs ≤ 3 * (10 ^ 9 * 4 ^ c) := Nat.mul_le_mul ht k
  generalize 4 ^ c = q at *
  rw [e]
  omega
section
variable {G : Gx} {C_Ratio C_Grid C_BadShape C_BadPlace C_CarryError : Addr}
theorem pot_push {p : Addr} {q : Addr × MO} {m0 m : Mu} (h : PotM p m0 m) : ∃ m', (q :: m).Perm m' ∧ PotM p (q :: m0) m' := by
  obtain ⟨cs, i, r, e, a, b, c⟩ := h
  subst e
  exact ⟨_, List.Perm.swap _ _ _, cs, i, r, rfl, a, b, c⟩
theorem pot_pop {p : Addr} {q : Addr × MO} {m0 m : Mu} (h : PotM p (q :: m0) m) : ∃ m', m.Perm (q :: m') ∧ PotM p m0 m' := by
  obtain ⟨cs, i, r, e, a, b, c⟩ := h
  subst e
  exact ⟨_, List.Perm.swap _ _ _, cs, i, r, rfl, a, b, c⟩
theorem pot_lst {p rp : Addr} {xs : List D} {m0 m : Mu} (h : PotM p ((rp, .lst xs) :: m0) m) : At m rp (.lst xs) ∧ ∀ ys, ∃ m', Put m rp (.lst ys) m' ∧ PotM p ((rp, .lst ys) :: m0) m' := by
  obtain ⟨cs, i, r, e, a, b, c⟩ := h
  subst e
  exact ⟨.tail .head, fun ys => ⟨_, .tail .head, cs, i, r, rfl, a, b, c⟩⟩
theorem we_appPot {W : WX} {E : ET} {r : Rho} {m m0 : Mu} {K : KT} {G : Gx} {p rp : Addr} {xs : List D} {d : D} {a b : Nat} (ha : r[a]? = some (some (.ref rp))) (hb : r[b]? = some (some d)) (h : PotM p ((rp, .lst xs) :: m0) m) (hl : xs.length < 1000000)
    (k : ∀ m', PotM p ((rp, .lst (xs ++ [d])) :: m0) m' → K .non m') : We W E (tBM G.K "list" rAppend (tVar a) (tCons (tVar b) tNil)) r m K := by
  obtain ⟨h1, h2⟩ := pot_lst h
  obtain ⟨m', h3, h4⟩ := h2 (xs ++ [d])
  exact we_app (we_var ha ⟨rp, xs, rfl, h1, wa_cons (we_var hb (wa_nil ⟨xs, d, m', rfl, h1, hl, h3, k m' h4⟩))⟩)
theorem pot_sub {p cp : Addr} {q m m' : Mu} (ne : cp ≠ p) (h : PotM p q m) (h' : PotM p q m') : Sub [cp] m m' := fun x hx o ha => by
  obtain ⟨_, _, _, rfl, _⟩ := h
  obtain ⟨_, _, _, rfl, _⟩ := h'
  obtain rfl : x = cp := by simpa using hx
  cases ha with
  | head => exact absurd rfl ne
  | tail z => exact .tail z
def S_table : SpecD := fun ds m K _ => ∃ (p : Addr) (m0 : Mu) (h w : Nat), ds = [.ref p, .int (h : Nat), .int (w : Nat)] ∧ h ≤ 5 ∧ w ≤ 6 ∧ PotM p m0 m ∧ ∀ C m', (∀ j i, j < w → i < h → Mg j (C j i)) → PotM p m0 m' → K (lli (tabR w h C)) m'
theorem use_table {p : Addr} {m0 m : Mu} {h w : Nat} {K : KT} {E : Ex → Mu → Prop} (hh : h ≤ 5) (hw : w ≤ 6) (hm : PotM p m0 m) (k : ∀ C m', (∀ j i, j < w → i < h → Mg j (C j i)) → PotM p m0 m' → K (lli (tabR w h C)) m') : S_table [.ref p, .int (h : Nat), .int (w : Nat)] m K E := ⟨p, m0, h, w, rfl, hh, hw, hm, k⟩
local macro_rules | `(tactic| walk_at "fld_1") => `(tactic| (with_reducible refine we_fldF ?_))
local macro_rules | `(tactic| walk_at "useWe_1") => `(tactic| first | (with_reducible refine we_app ?_) | fail)
local macro_rules | `(tactic| walk_at "sWe_1") => `(tactic| first
  | ((with_reducible refine we_var (d := ?d) ?hv ?hk); case hv => rfl)
  | (with_reducible first
    | refine we_cint ?_ | refine we_2 ?_ | refine we_cl0 ?_ | refine we_tup ?_ | refine we_1 ?_ | refine we_c2 ?_ | refine we_cbl ?_ | refine we_cnon ?_ | refine we_cty ?_ | refine we_cref ?_
    | refine we_op ?_ | refine we_andV ?_ | refine we_orV ?_ | refine we_notV ?_ | refine we_3 ?_ | refine we_ifx ?_ | refine we_cstr ?_ | refine we_clH ?_)
  | walk_at "fld_1"
  | walk_at "useWe_1")
local macro_rules | `(tactic| walk_at "useW2_1") => `(tactic| first
  | (with_reducible refine w2_eqRN ?_) | (with_reducible refine w2_eqLN ?_) | (with_reducible refine w2_eqLli ?_) | (with_reducible refine w2_eqLi ?_)
  | (with_reducible refine w2_ixT ⟨ix_map0 ?_, ?_⟩) | (with_reducible refine w2_ixL ⟨ix_map0 ?_, ?_⟩) | (with_reducible refine w2_ixT ⟨ix_map ?_, ?_⟩) | (with_reducible refine w2_ixL ⟨ix_map ?_, ?_⟩)
  | (with_reducible refine w2_addO (by assumption) (by decide) .fixed .fixed ?_) | (with_reducible refine w2_subO (by assumption) (by decide) .fixed .fixed ?_) | (with_reducible refine w2_mulO (by assumption) (by decide) .fixed .fixed ?_) | (with_reducible refine w1_negO (by assumption) (by decide) .fixed ?_)
  | (with_reducible refine w2_catL .lst .lst ?_ ?_) | fail)
local macro_rules | `(tactic| walk_at "sW2_1") => `(tactic| first
  | (with_reducible first
    | refine w2_add ?_ | refine w2_sub ?_ | refine w2_mul ⟨?_, ?_⟩ | refine w2_fdiv ⟨?_, ?_⟩ | refine w2_mod ⟨?_, ?_⟩ | refine w2_pow ⟨?_, ?_⟩ | refine w2_eqI ?_ | refine w2_neI ?_ | refine w2_lt ?_ | refine w2_le ?_ | refine w2_gt ?_ | refine w2_ge ?_ | refine w2_eqFI ?_ | refine w2_neFI ?_)
  | ((with_reducible refine w2_ixT (d := ?d) ⟨?hv, ?hk⟩); case hv => rfl)
  | ((with_reducible refine w2_ixL (d := ?d) ⟨?hv, ?hk⟩); case hv => rfl)
  | ((with_reducible refine w2_ixM (d := ?d) .head ⟨?hv, ?hk⟩); case hv => rfl)
  | (with_reducible first
    | refine w2_eqIH ?_ | refine w2_neIH ?_ | refine w2_mulH ⟨?_, ?_⟩ | refine w2_addH ?_ | refine w2_subH ?_ | refine w2_isN ?_ | refine w2_notN ?_ | refine w2_isB ?_ | refine w2_notB ?_)
  | walk_at "useW2_1")
local macro_rules | `(tactic| walk_at "sWa_1") => `(tactic| with_reducible first | refine wa_nil ?_ | refine wa_cons ?_)
local macro_rules | `(tactic| walk_at "useWs_1") => `(tactic| first | (with_reducible refine ws_rs0 ?_) | (with_reducible refine ws_rs ?_) | fail)
local macro_rules | `(tactic| walk_at "sWs_1") => `(tactic| first
  | (with_reducible first | refine ws_seq ?_ | refine ws_ret ?_ | refine ws_asg ?_ | refine ws_next ?_ | refine ws_drop ?_ | refine ws_par ?_ | refine ws_par3 ?_ | refine ws_fldN ?_ | refine ws_brk ?_ | refine ws_cont ?_)
  | walk_at "useWs_1")
local macro_rules | `(tactic| walk_at "sWt_1") => `(tactic| with_reducible first | refine wt_test ?_ | refine wt_tr ?_ | refine wt_and ?_ | refine wt_or ?_ | refine wt_not ?_)
local macro_rules | `(tactic| walk_at "useWc_1") => `(tactic| first
  | (with_reducible refine wc_len (LstM.len (by assumption)) ?_) | (with_reducible refine wc_len (SeqM.len (by assumption)) ?_) | (with_reducible refine wc_sumG ?_) | (with_reducible refine wc_sumI ?_) | (with_reducible refine wc_tupleL .tup ?_) | (with_reducible refine wc_tupleL .lst ?_) | (with_reducible refine wc_listF .tup ?_) | (with_reducible refine wc_listF .lst ?_) | fail)
local macro_rules | `(tactic| walk_at "sWc_1") => `(tactic| first
  | (with_reducible first | refine wc_int ?_ | refine wc_abs ?_ | refine wc_min ?_ | refine wc_gcd ?_ | refine wc_isiT .int kit_ii ?_ | refine wc_isiT .int kit_ib ?_ | refine wc_len .lst ?_ | refine wc_len .tup ?_ | refine wc_strI ?_ ?_)
  | walk_at "useWc_1")
local macro_rules | `(tactic| walk_at "sWi_1") => `(tactic| with_reducible first | refine wi_seq ?_ | refine wi_rng1S ?_ | refine wi_rng2 ?_ | refine wi_zipM ?_)
local macro_rules | `(tactic| walk_at "sWg_1") => `(tactic| with_reducible first | refine wg_name ?_ | refine wg_subM ?_ | refine wg_tup rfl ?_)
local macro_rules | `(tactic| walk_at "sW1_1") => `(tactic| first | (with_reducible refine w1_neg ?_) | walk_at "useW2_1")
local macro_rules | `(tactic| walk_at "sWgs_1") => `(tactic| with_reducible first | refine wgs_cons ?_ | refine wgs_nil ?_)
local macro_rules | `(tactic| walk_at "sS_1") => `(tactic| first | (with_reducible refine SlA.mk ?_ ?_) | (with_reducible refine RngA.mk ?_ ?_) | (with_reducible refine LcS.mk ?_ (fun a ha q => ?_) ?_) | (with_reducible exact LcL.mk rfl rfl) | fail)
local macro_rules | `(tactic| walk_at "sq_1") => `(tactic| first | assumption | exact SeqM.cons (by assumption) | exact SeqM.cons (SeqM.cons (by assumption)))
local macro_rules | `(tactic| walk_at "lst_1") => `(tactic| first
  | (with_reducible refine ⟨_, _, rfl, .head, ?_⟩) | (with_reducible refine ⟨_, _, _, rfl, .head, ?_, .head, ?_⟩) | (with_reducible refine ⟨_, _, .tup, ?_⟩) | (with_reducible refine ⟨_, _, .lst, ?_⟩) | (with_reducible refine ⟨_, _, (by walk_at "sq_1"), ?_⟩)
  | (with_reducible refine ⟨_, _, _, _, _, _, _, _, _, _, rfl, .tup, .tup, ?_⟩) | (with_reducible refine ⟨_, _, _, _, _, _, _, _, _, _, rfl, .tup, .lst, ?_⟩) | (with_reducible refine ⟨_, _, _, _, _, _, _, _, _, _, rfl, .tup, (by walk_at "sq_1"), ?_⟩) | (with_reducible refine ⟨_, _, _, _, _, _, _, _, _, _, rfl, .lst, .tup, ?_⟩) | (with_reducible refine ⟨_, _, _, _, _, _, _, _, _, _, rfl, .lst, .lst, ?_⟩) | (with_reducible refine ⟨_, _, _, _, _, _, _, _, _, _, rfl, .lst, (by walk_at "sq_1"), ?_⟩) | (with_reducible refine ⟨_, _, _, _, _, _, _, _, _, _, rfl, (by walk_at "sq_1"), .tup, ?_⟩) | (with_reducible refine ⟨_, _, _, _, _, _, _, _, _, _, rfl, (by walk_at "sq_1"), .lst, ?_⟩) | (with_reducible refine ⟨_, _, _, _, _, _, _, _, _, _, rfl, (by walk_at "sq_1"), (by walk_at "sq_1"), ?_⟩) | fail)
local macro_rules | `(tactic| walk_at "use_1") => `(tactic| first | walk_at "lst_1" | (with_reducible refine use_digit ?_ ?_ (by assumption) fun dg m' d0 d1 hpm => ?_) | fail)
local macro_rules | `(tactic| walk_at "sX_1") => `(tactic| first
  | (with_reducible refine ⟨_, rfl, ?_⟩)
  | (with_reducible refine fld_top (by assumption) ?_) | (with_reducible refine fld_bottom (by assumption) ?_)
  | (with_reducible refine ⟨_, .bl, ?_⟩)
  | ((with_reducible refine ⟨?h, ?_⟩); case h => rfl)
  | (with_reducible refine ⟨_, _, rfl, ?_⟩)
  | (with_reducible refine ⟨_, _, _, rfl, ?_⟩)
  | walk_at "use_1"
  | (with_reducible refine setN_top (by assumption) ?_) | (with_reducible refine setN_bottom (by assumption) ?_)
  | ((with_reducible refine ⟨_, _, _, ?j, _, rfl, rfl, .head, ?h, .head, ?_⟩); case h => rfl)
  | fail)
local macro_rules | `(tactic| walk_at "st_1") => `(tactic| first
  | ((with_reducible show We _ _ _ _ _ _); walk_at "sWe_1")
  | ((with_reducible show W2 _ _ _ _ _ _ _ _); walk_at "sW2_1")
  | ((with_reducible show Wa _ _ _ _ _ _); walk_at "sWa_1")
  | ((with_reducible show Ws _ _ _ _ _ _); walk_at "sWs_1")
  | ((with_reducible show Wt _ _ _ _ _ _); walk_at "sWt_1")
  | ((with_reducible show Wc _ _ _ _ _ _ _); walk_at "sWc_1")
  | ((with_reducible show Wi _ _ _ _ _ _); walk_at "sWi_1")
  | ((with_reducible show Wg _ _ _ _ _ _ _); walk_at "sWg_1")
  | ((with_reducible show W1 _ _ _ _ _ _ _); walk_at "sW1_1")
  | ((with_reducible show Wgs _ _ _ _ _ _ _); walk_at "sWgs_1")
  | walk_at "sS_1" | walk_at "sX_1" | fail)
local macro_rules | `(tactic| walk_at "br_1") => `(tactic| ((with_reducible refine ⟨fun hb => ?_, fun hb => ?_⟩) <;> (try simp only [decide_eq_true_eq, decide_eq_false_iff_not, Bool.not_eq_true', Bool.not_eq_false', Bool.and_eq_true, Bool.or_eq_true, reduceCtorEq, List.length_map, Bool.not_true, Bool.not_false, DL.isNon, not_true_eq_false, not_false_eq_true, Classical.not_not, List.all_cons, List.all_nil, id_eq, Bool.and_self, Bool.true_and, decide_true, decide_false] at hb)))
local macro_rules | `(tactic| walk_at "gn_1") => `(tactic| repeat' (first | walk_at "st_1" | walk_at "br_1" | fail))
local macro_rules | `(tactic| walk_at "wif_1") => `(tactic| (with_reducible refine ws_if ?_))
local macro_rules | `(tactic| walk_at "go_1") => `(tactic| repeat' (first | walk_at "st_1" | walk_at "wif_1" | walk_at "br_1" | fail))
theorem ok_table (T : Txt G C_Ratio C_Grid C_BadShape C_BadPlace C_CarryError) (c__law_digit : Cal G 1 "_law_digit" 2 S_digit []) (c__law_number : Cal G 2 "_law_number" 3 S_number []) (c__law_more : Cal G 1 "_law_more" 3 S_more []) {f : Addr} {fd : FuncData} (F : L2.Fun G.K "_law_table" "_law_table" s__law_table f fd) (b : L2.Binds G.K fd ["pot", "height", "width"] []) : Fnx G 3 f 3 S_table [] := by
  refine fnx_of F sc__law_table rfl b .nil rfl (fun cdv A outer s H FF hr tk => ⟨_, (pss_cons (ps_set (i := 3) sc__law_table.nd rfl (Or.inl rfl) (pe_cl c__law_digit hr (by decide) tk rfl (pa_cons (pe_var (i := 0) rfl (Or.inl rfl) nd_pot.1 nd_pot.2) (pa_cons pe_int pa_nil)))) (pss_cons (ps_set (i := 4) sc__law_table.nd rfl (Or.inl rfl) pe_int) (pss_cons (ps_if (pt_cm os_gt (pe_var (i := 3) rfl (Or.inl rfl) nd_kind.1 nd_kind.2) pe_int (nomark _)) (pss_one (ps_set (i := 4) sc__law_table.nd rfl (Or.inl rfl) pe_int)) pss_nil) (pss_cons (ps_if (pt_cm (os_eqF hr tk) (pe_var (i := 3) rfl (Or.inl rfl) nd_kind.1 nd_kind.2) pe_int (nomark _)) (pss_one (ps_set (i := 4) sc__law_table.nd rfl (Or.inl rfl) (pe_bin (os_add hr tk) (pe_bin (os_mul hr tk) pe_int (pe_bin os_pow pe_int pe_int)) pe_int))) pss_nil) (pss_cons (ps_set (i := 5) sc__law_table.nd rfl (Or.inl rfl) (pe_lst pa_nil)) (pss_cons (ps_for (passes_of rfl) rfl (pi_range1 rfl T.n_range (pa_cons (pe_var (i := 2) rfl (Or.inl rfl) nd_width.1 nd_width.2) pa_nil)) (pg_name (i := 6) sc__law_table.nd rfl (Or.inl rfl)) (pss_cons (ps_set (i := 3) sc__law_table.nd rfl (Or.inl rfl) (pe_cl c__law_digit hr (by decide) tk rfl (pa_cons (pe_var (i := 0) rfl (Or.inl rfl) nd_pot.1 nd_pot.2) (pa_cons pe_int pa_nil)))) (pss_cons (ps_set (i := 7) sc__law_table.nd rfl (Or.inl rfl) (pe_bin (os_add hr tk) pe_int (pe_bin (os_mul hr tk) (pe_bin (os_mul hr tk) pe_int (pe_var (i := 6) rfl (Or.inl rfl) nd_j.1 nd_j.2)) (pe_var (i := 6) rfl (Or.inl rfl) nd_j.1 nd_j.2)))) (pss_cons (ps_setLc (i := 8) (own := [("i", 9)]) (g := (gName 9)) (tt := tYes) rfl sc__law_table.nd rfl rfl (sw_true rfl rfl rfl (by decide +kernel)) (pi_range1 rfl T.n_range (pa_cons (pe_var (i := 1) rfl (Or.inl rfl) nd_height.1 nd_height.2) pa_nil)) (blkOk_by (N := N__law_table) (sc := (defScope s__law_table)) (by decide +kernel)) (fun _ _ _ _ _ => (pg_name (i := 9) sc__law_table.nd rfl (Or.inl rfl))) (fun _ _ _ _ _ => pts_nil) (fun _ _ _ _ _ => pe_int)) (pss_cons (ps_if (pt_cm os_lt (pe_var (i := 3) rfl (Or.inl rfl) nd_kind.1 nd_kind.2) pe_int (nomark _)) (pss_one (ps_for (passes_of rfl) rfl (pi_range1 rfl T.n_range (pa_cons (pe_var (i := 1) rfl (Or.inl rfl) nd_height.1 nd_height.2) pa_nil)) (pg_name (i := 9) sc__law_table.nd rfl (Or.inl rfl)) (pss_one (ps_asg (pe_cl c__law_number hr (by decide) tk rfl (pa_cons (pe_var (i := 0) rfl (Or.inl rfl) nd_pot.1 nd_pot.2) (pa_cons (pe_var (i := 4) rfl (Or.inl rfl) nd_many.1 nd_many.2) (pa_cons (pe_bin (os_add hr tk) (pe_var (i := 7) rfl (Or.inl rfl) nd_shift.1 nd_shift.2) (pe_bin (os_mul hr tk) pe_int (pe_var (i := 9) rfl (Or.inl rfl) nd_i.1 nd_i.2))) pa_nil)))) (pg_sub (pe_var (i := 8) rfl (Or.inl rfl) nd_column.1 nd_column.2) (pe_var (i := 9) rfl (Or.inl rfl) nd_i.1 nd_i.2) set_list))))) pss_nil) (pss_cons (ps_if (pt_cm (os_eqF hr tk) (pe_var (i := 3) rfl (Or.inl rfl) nd_kind.1 nd_kind.2) pe_int (nomark _)) (pss_one (ps_for (passes_of rfl) rfl (pi_seq (pe_var (i := 5) rfl (Or.inl rfl) nd_columns.1 nd_columns.2)) (pg_name (i := 10) sc__law_table.nd rfl (Or.inl rfl)) (pss_one (ps_set (i := 8) sc__law_table.nd rfl (Or.inl rfl) (pe_cl c__law_more hr (by decide) tk rfl (pa_cons (pe_var (i := 8) rfl (Or.inl rfl) nd_column.1 nd_column.2) (pa_cons (pe_var (i := 10) rfl (Or.inl rfl) nd_other.1 nd_other.2) (pa_cons (pe_bin (os_sub hr tk) pe_int (pe_cl c__law_digit hr (by decide) tk rfl (pa_cons (pe_var (i := 0) rfl (Or.inl rfl) nd_pot.1 nd_pot.2) (pa_cons pe_int pa_nil)))) pa_nil)))))))) pss_nil) (pss_one (ps_expr (pe_bm PySem.F.plainAttrs_list PySem.F.slot_list_append PySem.F.type_list_append mt_append (pe_var (i := 5) rfl (Or.inl rfl) nd_columns.1 nd_columns.2) (pa_cons (pe_var (i := 8) rfl (Or.inl rfl) nd_column.1 nd_column.2) pa_nil)))))))))) (pss_one (ps_ret (pe_var (i := 5) rfl (Or.inl rfl) nd_columns.1 nd_columns.2))))))))), ?_⟩)
  rintro ds m K E - ⟨p, m0, h, w, rfl, hh, hw, hm, k⟩
  show Ws _ _ _ [some (.ref p), some (.int (h : Nat)), some (.int (w : Nat)), none, none, none, none, none, none, none, none] _ _
  try dsimp only [cx_G, cx_K]
  walk_at "gn_1"
  · decide
  · exact bd_lit (by decide)
  rename_i kd m1 kd0 kd1 hp1
  let Many : Int → Prop := fun many => many = 19 ∨ many = 199 ∨ many = 2000000001
  let R1 : Int → Rho := fun many => [some (.ref p), some (.int (h : Nat)), some (.int (w : Nat)), some (.int kd), some (.int many), none, none, none, none, none, none]
  refine Ws.cut (fun r' m' => m' = m1 ∧ ∃ many, Many many ∧ r' = R1 many) ?_ ?_
  · walk_at "go_1"
    · exact ⟨199, .inr (.inl rfl), rfl⟩
    · exact ⟨19, .inl rfl, rfl⟩
  rintro r' m' ⟨rfl, many, hmany, rfl⟩
  walk_at "gn_1"
  refine Ws.cut (fun r' m'' => m'' = m' ∧ ∃ many, Many many ∧ r' = R1 many) ?_ ?_
  · walk_at "go_1"
    · exact ⟨by decide, by decide, by decide⟩
    · exact (show Bd 2 2 from bd_lit (by decide)).mulX (show Bd 40 _ from bd_lit (by decide)) (by decide)
    · exact ⟨_, .inr (.inr (by decide)), rfl⟩
    · exact ⟨many, hmany, rfl⟩
  clear hmany many
  rintro r' m'' ⟨rfl, many, hmany, rfl⟩
  walk_at "gn_1"
  refine we_lstM ?_
  walk_at "gn_1"
  intro cp hcp
  walk_at "gn_1"
  obtain ⟨mm, pm, hpm⟩ := pot_push (q := (cp, .lst [])) hp1
  refine Ws.perm pm ?_
  have cpp : cp ≠ p := fun e => hcp (by
    obtain ⟨_, _, _, rfl, _⟩ := hp1
    rw [e]
    exact dom_cons.mpr (.inl rfl))
  clear hp1
  let xs : Nat → (Nat → Nat → Int) → List D := fun j C => (tabR j h C).map li
  let R2 : Int → Option D → Option D → Option D → Option D → Option D → Rho := fun kd o6 o7 o8 o9 o10 => [some (.ref p), some (.int (h : Nat)), some (.int (w : Nat)), some (.int kd), some (.int many), some (.ref cp), o6, o7, o8, o9, o10]
  refine ws_range1 ?_
  walk_at "gn_1"
  refine ⟨_, fun j r' m' => ∃ (C : Nat → Nat → Int) (kd : Int), (∀ l i, l < j → i < h → Mg l (C l i)) ∧ PotM p ((cp, .lst (xs j C)) :: m0) m' ∧ ∃ o6 o7 o8 o9 o10, r' = R2 kd o6 o7 o8 o9 o10, rfl, by omega, ⟨fun _ _ => 0, kd, fun l i h => absurd h (Nat.not_lt_zero _), hpm, none, none, none, none, none, rfl⟩, ?_, ?_⟩
  · rintro j r' m' hj ⟨C, kd', hC, hpm, o6, o7, o8, o9, o10, rfl⟩
    have hj' : j < w := by omega
    have bj : Bd 3 (j : Int) := by unfold Bd; omega
    walk_at "gn_1"
    all_goals try first
      | decide
      | exact bd_lit (by decide)
      | exact (show Bd 3 3 from bd_lit (by decide)).mulX bj (by decide)
      | exact ((show Bd 3 3 from bd_lit (by decide)).mul bj).mulX bj (by decide)
    rename_i kd2 m2 kd20 kd21 hpm2
    clear hpm
    refine we_lcM (α := Nat) (fun i => .int (i : Int)) (fun _ => .int 0) (gk_name (by decide)) (wi_rng1S ?_)
    walk_at "gn_1"
    · exact rngB (by omega)
    · exact Nat.ble_eq_true_of_le (by rw [List.length_range, Int.toNat_natCast]; omega)
    intro tp htp
    rw [Int.toNat_natCast]
    walk_at "gn_1"
    obtain ⟨m3, pm3, hpm3⟩ := pot_push (q := (tp, .lst ((List.range h).map fun _ => .int 0))) hpm2
    refine Ws.perm pm3 ?_
    clear pm3 hpm2
    let col : (Nat → Int) → List D := fun f => ((List.range h).map f).map D.int
    have c0 : ((List.range h).map fun _ => D.int 0) = col fun _ => 0 := by
      show _ = List.map _ (List.map _ _)
      rw [List.map_map]
      rfl
    rw [c0] at hpm3
    have lc : ∀ f, (col f).length = h := fun f => by simp [col]
    let sh : Int := 1 + 3 * (j : Int) * (j : Int)
    let R3 : Option D → Option D → Option D → Rho := fun o8 o9 o10 => R2 kd2 (some (.int (j : Nat))) (some (.int sh)) o8 o9 o10
    refine Ws.cut (fun r' m' => ∃ f : Nat → Int, (kd2 < 2 → ∀ i, i < h → Mg 0 (f i)) ∧ (¬ kd2 < 2 → ∀ i, i < h → f i = 0) ∧ PotM p ((tp, .lst (col f)) :: (cp, .lst (xs j C)) :: m0) m' ∧ ∃ o9 o10, r' = R3 (some (.ref tp)) o9 o10) ?_ ?_
    · refine ws_if ?_
      walk_at "gn_1"
      · refine ws_range1 ?_
        walk_at "gn_1"
        refine ⟨_, fun i r' m' => ∃ f : Nat → Int, (∀ a, a < i → Mg 0 (f a)) ∧ PotM p ((tp, .lst (col f)) :: (cp, .lst (xs j C)) :: m0) m' ∧ ∃ o9 o10, r' = R3 (some (.ref tp)) o9 o10, rfl, by omega, ⟨fun _ => 0, fun a h => absurd h (Nat.not_lt_zero _), hpm3, _, _, rfl⟩, ?_, ?_⟩
        · rintro i r' m' hi ⟨f, hf, hpm, o9, o10, rfl⟩
          have hi' : i < h := by omega
          walk_at "gn_1"
          all_goals try exact (show Bd 3 7 from bd_lit (by decide)).mulX (show Bd 3 (i : Int) by unfold Bd; omega) (by decide)
          refine use_number (by rcases hmany with rfl | rfl | rfl <;> decide) (by rcases hmany with rfl | rfl | rfl <;> exact bd_lit (by decide)) hpm fun v m4 v0 v1 hm4 => ?_
          obtain ⟨h1, h2⟩ := pot_lst hm4
          obtain ⟨m5, h3, h4⟩ := h2 ((col f).set i (.int v))
          walk_at "gn_1"
          refine ⟨tp, _, _, i, m5, rfl, rfl, h1, ixN_nat (by rw [lc]; exact hi'), h3, ?_⟩
          refine ⟨fun a => if a = i then v else f a, fun a ha => ?_, ?_, _, _, rfl⟩
          · by_cases e : a = i
            · simp only [e, if_pos]
              unfold Mg
              rcases hmany with rfl | rfl | rfl <;> omega
            · simp only [if_neg e]
              exact hf a (by omega)
          · have es : (col f).set i (.int v) = col fun a => if a = i then v else f a := by
              refine List.ext_getElem (by simp [col]) fun a h1 h2 => ?_
              rw [List.getElem_set]
              by_cases e : i = a
              · subst e
                simp [col]
              · have : ¬ a = i := fun z => e z.symm
                simp [col, e, this]
            rw [← es]
            exact h4
        · rintro r' m' ⟨f, hf, hpm, o9, o10, rfl⟩
          rw [Int.toNat_natCast] at hf
          exact ⟨f, fun _ i hi => hf i hi, fun z => absurd ‹kd2 < 2› z, hpm, _, _, rfl⟩
      · exact ⟨fun _ => 0, fun z => absurd z ‹¬ kd2 < 2›, fun _ _ _ => rfl, hpm3, _, _, rfl⟩
    rintro r' m4 ⟨f, f1, f2, hpm4, o9, o10, rfl⟩
    obtain ⟨m5, pm5, hpm5⟩ := pot_pop hpm4
    refine Ws.perm pm5 ?_
    refine Ws.freeze (i := 8) rfl ?_
    clear hpm3 hpm4 pm5
    walk_at "gn_1"
    refine Ws.cut (fun r' m' => ∃ g : Nat → Int, (∀ i, i < h → Mg j (g i)) ∧ PotM p ((cp, .lst (xs j C)) :: m0) m' ∧ ∃ o9 o10, r' = R3 (some (li ((List.range h).map g))) o9 o10) ?_ ?_
    · refine ws_if ?_
      walk_at "gn_1"
      · refine ws_forI (wi_seq (we_var (d := .ref cp) rfl ⟨[cp], xs j C, .mutb (pot_lst hpm5).1, ?_⟩))
        refine ⟨fun l r' m' => ∃ g : Nat → Int, (∀ i, i < h → Ml l (g i)) ∧ PotM p ((cp, .lst (xs j C)) :: m0) m' ∧ ∃ o9 o10, r' = R3 (some (li ((List.range h).map g))) o9 o10, ⟨f, fun i hi => ?_, hpm5, _, _, rfl⟩, ?_, ?_, ?_⟩
        · rw [f2 (by omega) i hi]
          unfold Ml
          decide
        · rintro l r' m' ⟨g, _, hpm, _⟩
          exact pot_sub cpp hpm5 hpm
        · rintro l x r' m' hx ⟨g, hg, hpm, o9, o10, rfl⟩
          have hl : l < j := by
            have := (List.getElem?_eq_some_iff.mp hx).1
            simpa [xs, tabR] using this
          obtain rfl : li ((List.range h).map fun q => C l q) = x := Option.some.inj ((tabR_at hl).symm.trans hx)
          walk_at "gn_1"
          all_goals try first | decide | exact bd_lit (by decide)
          refine use_more hh (by unfold Bd; omega) (fun i hi => ((hg i hi).bd (by omega)).mono (by decide)) (fun i hi => ((hC l i hl hi).bd (by omega)).mono (by decide)) ?_
          walk_at "gn_1"
          exact ⟨_, fun i hi => (hg i hi).step (hC l i hl hi) (by omega), ‹_›, _, _, rfl⟩
        · rintro r' m' ⟨g, hg, hpm, o9, o10, rfl⟩
          have e : (xs j C).length = j := by simp [xs, tabR]
          rw [e] at hg
          exact ⟨g, fun i hi => (hg i hi).mg, hpm, _, _, rfl⟩
      · refine ⟨f, fun i hi => ?_, hpm5, _, _, rfl⟩
        by_cases z : kd2 < 2
        · exact (f1 z i hi).up (Nat.zero_le _)
        · rw [f2 z i hi]
          unfold Mg
          exact Nat.zero_le _
    rintro r' m6 ⟨g, hg, hpm6, o9, o10, rfl⟩
    walk_at "gn_1"
    have e : (xs j C).length = j := by simp [xs, tabR]
    obtain ⟨h1, h2⟩ := pot_lst hpm6
    obtain ⟨m7, h3, hm7⟩ := h2 (xs j C ++ [li ((List.range h).map g)])
    refine ⟨cp, _, rfl, h1, ?_⟩
    walk_at "gn_1"
    refine ⟨_, _, m7, rfl, h1, by omega, h3, ?_⟩
    refine ⟨fun l i => if l = j then g i else C l i, kd2, fun l i hl hi => ?_, ?_, _, _, _, _, _, rfl⟩
    · by_cases z : l = j
      · simp only [z, if_pos]
        exact hg i hi
      · simp only [if_neg z]
        exact hC l i (by omega) hi
    · have es : xs j C ++ [li ((List.range h).map g)] = xs (j + 1) fun l i => if l = j then g i else C l i := by
        show (List.map li (List.map _ _)) ++ _ = List.map li (List.map _ _)
        rw [range_sn]
        simp only [List.map_append]
        congr 1
        · congr 1
          exact List.map_congr_left fun l hl => by
            have := List.mem_range.mp hl
            exact List.map_congr_left fun q _ => by rw [if_neg (by omega)]
      rw [← es]
      exact hm7
  · rintro r' m' ⟨C, kd', hC, hpm, o6, o7, o8, o9, o10, rfl⟩
    rw [Int.toNat_natCast] at hC hpm
    obtain ⟨m2, pm2, hpm2⟩ := pot_pop hpm
    refine Ws.perm pm2 ?_
    refine Ws.freeze (i := 5) rfl ?_
    walk_at "gn_1"
    exact k C _ hC hpm2
end
end K10
set_option Elab.async false
set_option linter.all false
set_option maxRecDepth 100000
/-! MK: columns kept one after the other, each cleared by those ahead. -/
namespace DL
open PySem PySem.Spec L2
open PyProof.Rows hiding St
def VsS (n : Nat) (v : Nat → Nat → Int) : (Nat → Int) → Prop := fun y => ∃ l, l < n ∧ y = v l
def VsF (n : Nat) (v : Nat → Nat → Int) (f : Nat → Int) : (Nat → Int) → Prop := fun y => VsS n v y ∨ y = f
structure Kp (h : Nat) (C : Nat → Nat → Int) (j n : Nat) (pos P : Nat → Nat) (v : Nat → Nat → Int) : Prop where
  nj : n ≤ j
  ph : ∀ l, l < n → pos l < h
  nz : ∀ l, l < n → v l (pos l) ≠ 0
  lz : ∀ l' l, l' < l → l < n → v l (pos l') = 0
  vc : ∀ l, l < n → InQ h (VsS j C) (v l)
  cv : ∀ c, c < j → InQ h (VsS n v) (C c)
  mono : ∀ i l, i < l → l < n → P i < P l
  lt : ∀ l, l < n → P l < j
  dep : ∀ c, c < j → ((∃ l, l < n ∧ P l = c) ↔ ¬ InQ h (VsS c C) (C c))
  sz : ∀ l i, l < n → i < h → Bd (41 * 2 ^ l - 1) (v l i)
theorem Kp.zero {h : Nat} {C v : Nat → Nat → Int} {pos P : Nat → Nat} : Kp h C 0 0 pos P v := by
  constructor <;> intros <;> first | omega | (exfalso; omega)
/-- one column, as it is cleared -/
structure Kc (h : Nat) (C : Nat → Nat → Int) (j n l : Nat) (pos : Nat → Nat) (v : Nat → Nat → Int) (f : Nat → Int) : Prop where
  z : ∀ l', l' < l → f (pos l') = 0
  a : InQ h (VsF n v (C j)) f
  b : InQ h (VsF n v f) (C j)
  sz : ∀ i, i < h → Bd (41 * 2 ^ l - 1) (f i)
section
variable {h j n l : Nat} {C v : Nat → Nat → Int} {pos P : Nat → Nat} {f : Nat → Int}
theorem Kc.zero (s : ∀ i, i < h → Bd 40 (C j i)) : Kc h C j n 0 pos v (C j) :=
  ⟨fun _ h => absurd h (Nat.not_lt_zero _), InQ.mem (.inr rfl), InQ.mem (.inr rfl), fun i hi => (s i hi).mono (by decide)⟩
theorem Kc.step (K : Kp h C j n pos P v) (c : Kc h C j n l pos v f) (hl : l < n) : Kc h C j n (l + 1) pos v fun i => f i * v l (pos l) - v l i * f (pos l) := by
  have hv : InQ h (VsF n v (C j)) (v l) := InQ.mem (.inl ⟨l, hl, rfl⟩)
  refine ⟨fun l' h' => ?_, ?_, ?_, fun i hi => ?_⟩
  · show f (pos l') * v l (pos l) - v l (pos l') * f (pos l) = 0
    by_cases e : l' = l
    · subst e
      rw [Int.mul_comm]
      omega
    · rw [c.z l' (by omega), K.lz l' l (by omega) hl]
      simp
  · exact ((c.a.smul (v l (pos l))).add (hv.smul (-f (pos l)))).congr fun i _ => by grind
  · refine InQ.trans (fun y hy => ?_) c.b
    rcases hy with hy | rfl
    · exact InQ.mem (.inl hy)
    · refine InQ.div (K.nz l hl) ?_
      have h1 : InQ h (VsF n v fun i => y i * v l (pos l) - v l i * y (pos l)) (fun i => y i * v l (pos l) - v l i * y (pos l)) := InQ.mem (.inr rfl)
      have h2 : InQ h (VsF n v fun i => y i * v l (pos l) - v l i * y (pos l)) (v l) := InQ.mem (.inl ⟨l, hl, rfl⟩)
      exact (h1.add (h2.smul (y (pos l)))).congr fun i _ => by grind
  · have hp := K.ph l hl
    have h1 := (c.sz i hi).mul (K.sz l (pos l) hl hp)
    have h2 := (K.sz l i hl hi).mul (c.sz (pos l) hp)
    have p : 1 ≤ 2 ^ l := Nat.one_le_pow _ _ (by decide)
    have e : 2 ^ (l + 1) = 2 ^ l * 2 := Nat.pow_succ _ _
    refine ((h1.mono (Nat.le_refl _)).sub (h2.mono (Nat.le_refl _))).mono ?_
    rw [e]
    generalize 2 ^ l = q at *
    omega
/-- of what is kept, only nought is nought at all places -/
theorem Kp.none (K : Kp h C j n pos P v) {x : Nat → Int} (hx : InQ h (VsS n v) x) (z : ∀ l, l < n → x (pos l) = 0) : ∀ i, i < h → x i = 0 := by
  obtain ⟨t, t0, lx⟩ := hx
  obtain ⟨u, hu⟩ := lx.coef
  have uz : ∀ l, l < n → u l = 0 := fun l => by
    induction l using Nat.strongRecOn with
    | _ l ih =>
      intro hl
      have e := hu (pos l) (K.ph l hl)
      rw [z l hl, Int.mul_zero] at e
      have e2 : (sm n fun a => u a * v a (pos l)) = sm n fun a => dlt l a * (u l * v l (pos l)) := sm_congr fun a ha => by
        unfold dlt
        by_cases y : l = a
        · subst y
          rw [if_pos rfl, Int.one_mul]
        · rw [if_neg y, Int.zero_mul]
          by_cases q : a < l
          · rw [ih a q ha, Int.zero_mul]
          · rw [K.lz l a (by omega) ha, Int.mul_zero]
      rw [e2, sm_dlt (f := fun _ => u l * v l (pos l)), if_pos hl] at e
      rcases Int.mul_eq_zero.mp e.symm with q | q
      · exact q
      · exact absurd q (K.nz l hl)
  intro i hi
  have e := hu i hi
  have e2 : (sm n fun a => u a * v a i) = 0 := by
    have e3 : (sm n fun a => u a * v a i) = sm n fun a => 0 * v a i := sm_congr fun a ha => by rw [uz a ha]
    rw [e3, sm_mul, Int.zero_mul]
  rw [e2] at e
  rcases Int.mul_eq_zero.mp e with q | q
  · exact absurd q t0
  · exact q
theorem Kp.vcj (K : Kp h C j n pos P v) {x : Nat → Int} (hx : InQ h (VsS n v) x) : InQ h (VsS j C) x := InQ.trans (fun y hy => by
  obtain ⟨l, hl, rfl⟩ := hy
  exact K.vc l hl) hx
theorem Kp.cvj (K : Kp h C j n pos P v) {x : Nat → Int} (hx : InQ h (VsS j C) x) : InQ h (VsS n v) x := InQ.trans (fun y hy => by
  obtain ⟨c, hc, rfl⟩ := hy
  exact K.cv c hc) hx
/-- the column is nought: not kept -/
theorem Kp.skip (K : Kp h C j n pos P v) (c : Kc h C j n n pos v f) (z : ∀ i, i < h → f i = 0) : Kp h C (j + 1) n pos P v := by
  have cj : InQ h (VsS n v) (C j) := InQ.trans (fun y hy => by
    rcases hy with hy | rfl
    · exact InQ.mem hy
    · exact InQ.zero.congr fun i hi => (z i hi).symm) c.b
  refine ⟨Nat.le_succ_of_le K.nj, K.ph, K.nz, K.lz, fun l hl => ?_, fun d hd => ?_, K.mono, fun l hl => Nat.lt_succ_of_lt (K.lt l hl), fun d hd => ?_, K.sz⟩
  · exact InQ.trans (fun y hy => by
      obtain ⟨l, hl, rfl⟩ := hy
      exact InQ.mem ⟨l, by omega, rfl⟩) (K.vc l hl)
  · by_cases e : d = j
    · rw [e]
      exact cj
    · exact K.cv d (by omega)
  · by_cases e : d = j
    · subst e
      refine ⟨fun ⟨l, hl, e⟩ => ?_, fun q => absurd (K.vcj cj) q⟩
      have := K.lt l hl
      omega
    · exact K.dep d (by omega)
/-- the column is kept -/
theorem Kp.keep (K : Kp h C j n pos P v) (c : Kc h C j n n pos v f) {p : Nat} (hp : p < h) (p0 : f p ≠ 0) : Kp h C (j + 1) (n + 1) (fun l => if l = n then p else pos l) (fun l => if l = n then j else P l) fun l => if l = n then f else v l := by
  have vs : ∀ y, VsS n v y → VsS (n + 1) (fun l => if l = n then f else v l) y := fun y ⟨l, hl, e⟩ => ⟨l, by omega, by show y = if l = n then f else v l; rw [if_neg (by omega)]; exact e⟩
  have fs : VsS (n + 1) (fun l => if l = n then f else v l) f := ⟨n, by omega, by show f = if n = n then f else v n; rw [if_pos rfl]⟩
  have nj : ¬ InQ h (VsS j C) (C j) := fun q => by
    have q2 := K.cvj q
    have q3 : InQ h (VsS n v) f := InQ.trans (fun y hy => by
      rcases hy with hy | rfl
      · exact InQ.mem hy
      · exact q2) c.a
    exact p0 (K.none q3 c.z p hp)
  refine ⟨Nat.succ_le_succ K.nj, fun l hl => ?_, fun l hl => ?_, fun l' l h1 h2 => ?_, fun l hl => ?_, fun d hd => ?_, fun i l h1 h2 => ?_, fun l hl => ?_, fun d hd => ?_, fun l i hl hi => ?_⟩
  · by_cases e : l = n
    · simp only [e, if_pos]; exact hp
    · simp only [if_neg e]; exact K.ph l (by omega)
  · by_cases e : l = n
    · simp only [e, if_pos]; exact p0
    · simp only [if_neg e]; exact K.nz l (by omega)
  · have n1 : ¬ l' = n := by omega
    by_cases e : l = n
    · simp only [e, if_pos, if_neg n1]; exact c.z l' (by omega)
    · simp only [if_neg e, if_neg n1]; exact K.lz l' l h1 (by omega)
  · have up : ∀ y, InQ h (VsS j C) y → InQ h (VsS (j + 1) C) y := fun y q => InQ.trans (fun y hy => by
      obtain ⟨l, hl, rfl⟩ := hy
      exact InQ.mem ⟨l, by omega, rfl⟩) q
    by_cases e : l = n
    · simp only [e, if_pos]
      exact InQ.trans (fun y hy => by
        rcases hy with hy | rfl
        · exact up _ (K.vcj (InQ.mem hy))
        · exact InQ.mem ⟨j, by omega, rfl⟩) c.a
    · simp only [if_neg e]; exact up _ (K.vc l (by omega))
  · by_cases e : d = j
    · subst e
      exact InQ.trans (fun y hy => by
        rcases hy with hy | rfl
        · exact InQ.mem (vs y hy)
        · exact InQ.mem fs) c.b
    · exact InQ.trans (fun y hy => InQ.mem (vs y hy)) (K.cv d (by omega))
  · have n1 : ¬ i = n := by omega
    by_cases e : l = n
    · simp only [e, if_pos, if_neg n1]; exact K.lt i (by omega)
    · simp only [if_neg e, if_neg n1]; exact K.mono i l h1 (by omega)
  · by_cases e : l = n
    · simp only [e, if_pos]; omega
    · simp only [if_neg e]
      have := K.lt l (by omega)
      omega
  · by_cases e : d = j
    · subst e
      exact ⟨fun _ => nj, fun _ => ⟨n, by omega, if_pos rfl⟩⟩
    · rw [← K.dep d (by omega)]
      constructor
      · rintro ⟨l, hl, q⟩
        by_cases y : l = n
        · simp only [y, if_pos] at q
          omega
        · simp only [if_neg y] at q
          exact ⟨l, by omega, q⟩
      · rintro ⟨l, hl, q⟩
        exact ⟨l, by omega, by simp only [if_neg (show ¬ l = n by omega)]; exact q⟩
  · by_cases e : l = n
    · simp only [e, if_pos]; exact c.sz i hi
    · simp only [if_neg e]; exact K.sz l i (by omega) hi
end
end DL
set_option Elab.async false
set_option linter.all false
set_option maxRecDepth 100000
set_option maxHeartbeats 4000000
namespace K10
open PySem PySem.Spec L2 DL
open PyProof.Rows hiding St
/-! one step, by the goal's head -/

/-! comprehensions, sums, lists of others -/

/-! lists that may be written -/

def S_lind : SpecD := fun ds m K _ => ∃ (h w : Nat) (C : Nat → Nat → Int), ds = [lli (tabR w h C)] ∧ h ≤ 5 ∧ w ≤ 6 ∧ (∀ j i, j < w → i < h → Mg j (C j i)) ∧ ∀ n pos P v, Kp h C w n pos P v → K (li ((List.range n).map fun j => (P j : Int))) m
theorem use_lind {h w : Nat} {C : Nat → Nat → Int} {m : Mu} {K : KT} {E : Ex → Mu → Prop} (hh : h ≤ 5) (hw : w ≤ 6) (hC : ∀ j i, j < w → i < h → Mg j (C j i)) (k : ∀ n pos P v, Kp h C w n pos P v → K (li ((List.range n).map fun j => (P j : Int))) m) : S_lind [lli (tabR w h C)] m K E := ⟨h, w, C, rfl, hh, hw, hC, k⟩
theorem w2_neLN {W : WX} {E : ET} {r : Rho} {m : Mu} {K : KT} {G : Gx} {j : Nat} {xs : List Int} (h : K (.bl (!decide (xs = []))) m) : W2 W E (oNeF G j W) (li xs) (.lst []) r m K :=
  w2_neFD (pd_li xs) (pd_li []) (sh_li xs) (sh_li []) (by rw [PyData.eqv, eqv_ints]; exact h)
section
variable {G : Gx} {C_Ratio C_Grid C_BadShape C_BadPlace C_CarryError : Addr}
local macro_rules | `(tactic| walk_at "fld_1") => `(tactic| (with_reducible refine we_fldF ?_))
local macro_rules | `(tactic| walk_at "useWe_1") => `(tactic| first | (with_reducible refine we_app ?_) | fail)
local macro_rules | `(tactic| walk_at "sWe_1") => `(tactic| first
  | ((with_reducible refine we_var (d := ?d) ?hv ?hk); case hv => rfl)
  | (with_reducible first
    | refine we_cint ?_ | refine we_2 ?_ | refine we_cl0 ?_ | refine we_tup ?_ | refine we_1 ?_ | refine we_c2 ?_ | refine we_cbl ?_ | refine we_cnon ?_ | refine we_cty ?_ | refine we_cref ?_
    | refine we_op ?_ | refine we_andV ?_ | refine we_orV ?_ | refine we_notV ?_ | refine we_3 ?_ | refine we_ifx ?_ | refine we_cstr ?_ | refine we_clH ?_)
  | walk_at "fld_1"
  | walk_at "useWe_1")
local macro_rules | `(tactic| walk_at "useW2_1") => `(tactic| first
  | (with_reducible refine w2_neLN ?_) | (with_reducible refine w2_ixT ⟨ix_map0 ?_, ?_⟩) | (with_reducible refine w2_ixL ⟨ix_map0 ?_, ?_⟩) | (with_reducible refine w2_ixT ⟨ix_map ?_, ?_⟩) | (with_reducible refine w2_ixL ⟨ix_map ?_, ?_⟩) | fail)
local macro_rules | `(tactic| walk_at "sW2_1") => `(tactic| first
  | (with_reducible first
    | refine w2_add ?_ | refine w2_sub ?_ | refine w2_mul ⟨?_, ?_⟩ | refine w2_fdiv ⟨?_, ?_⟩ | refine w2_mod ⟨?_, ?_⟩ | refine w2_pow ⟨?_, ?_⟩ | refine w2_eqI ?_ | refine w2_neI ?_ | refine w2_lt ?_ | refine w2_le ?_ | refine w2_gt ?_ | refine w2_ge ?_ | refine w2_eqFI ?_ | refine w2_neFI ?_)
  | ((with_reducible refine w2_ixT (d := ?d) ⟨?hv, ?hk⟩); case hv => rfl)
  | ((with_reducible refine w2_ixL (d := ?d) ⟨?hv, ?hk⟩); case hv => rfl)
  | ((with_reducible refine w2_ixM (d := ?d) .head ⟨?hv, ?hk⟩); case hv => rfl)
  | (with_reducible first
    | refine w2_eqIH ?_ | refine w2_neIH ?_ | refine w2_mulH ⟨?_, ?_⟩ | refine w2_addH ?_ | refine w2_subH ?_ | refine w2_isN ?_ | refine w2_notN ?_ | refine w2_isB ?_ | refine w2_notB ?_)
  | walk_at "useW2_1")
local macro_rules | `(tactic| walk_at "sWa_1") => `(tactic| with_reducible first | refine wa_nil ?_ | refine wa_cons ?_)
local macro_rules | `(tactic| walk_at "useWs_1") => `(tactic| first | (with_reducible refine ws_rs0 ?_) | (with_reducible refine ws_rs ?_) | fail)
local macro_rules | `(tactic| walk_at "sWs_1") => `(tactic| first
  | (with_reducible first | refine ws_seq ?_ | refine ws_ret ?_ | refine ws_asg ?_ | refine ws_next ?_ | refine ws_drop ?_ | refine ws_par ?_ | refine ws_par3 ?_ | refine ws_fldN ?_ | refine ws_brk ?_ | refine ws_cont ?_)
  | walk_at "useWs_1")
local macro_rules | `(tactic| walk_at "sWt_1") => `(tactic| with_reducible first | refine wt_test ?_ | refine wt_tr ?_ | refine wt_and ?_ | refine wt_or ?_ | refine wt_not ?_)
local macro_rules | `(tactic| walk_at "useWc_1") => `(tactic| first
  | (with_reducible refine wc_len (LstM.len (by assumption)) ?_) | (with_reducible refine wc_len (SeqM.len (by assumption)) ?_) | (with_reducible refine wc_sumG ?_) | (with_reducible refine wc_sumI ?_) | (with_reducible refine wc_tupleL .tup ?_) | (with_reducible refine wc_tupleL .lst ?_) | (with_reducible refine wc_listF .tup ?_) | (with_reducible refine wc_listF .lst ?_) | fail)
local macro_rules | `(tactic| walk_at "sWc_1") => `(tactic| first
  | (with_reducible first | refine wc_int ?_ | refine wc_abs ?_ | refine wc_min ?_ | refine wc_gcd ?_ | refine wc_isiT .int kit_ii ?_ | refine wc_isiT .int kit_ib ?_ | refine wc_len .lst ?_ | refine wc_len .tup ?_ | refine wc_strI ?_ ?_)
  | walk_at "useWc_1")
local macro_rules | `(tactic| walk_at "sWi_1") => `(tactic| with_reducible first | refine wi_seq ?_ | refine wi_rng1S ?_ | refine wi_rng2 ?_ | refine wi_zipM ?_)
local macro_rules | `(tactic| walk_at "sWg_1") => `(tactic| with_reducible first | refine wg_name ?_ | refine wg_subM ?_ | refine wg_tup rfl ?_)
local macro_rules | `(tactic| walk_at "sW1_1") => `(tactic| first | (with_reducible refine w1_neg ?_) | walk_at "useW2_1")
local macro_rules | `(tactic| walk_at "sWgs_1") => `(tactic| with_reducible first | refine wgs_cons ?_ | refine wgs_nil ?_)
local macro_rules | `(tactic| walk_at "sS_1") => `(tactic| first | (with_reducible refine SlA.mk ?_ ?_) | (with_reducible refine RngA.mk ?_ ?_) | (with_reducible refine LcS.mk ?_ (fun a ha q => ?_) ?_) | (with_reducible exact LcL.mk rfl rfl) | fail)
local macro_rules | `(tactic| walk_at "sq_1") => `(tactic| first | assumption | exact SeqM.cons (by assumption) | exact SeqM.cons (SeqM.cons (by assumption)))
local macro_rules | `(tactic| walk_at "lst_1") => `(tactic| first
  | (with_reducible refine ⟨_, _, rfl, .head, ?_⟩) | (with_reducible refine ⟨_, _, _, rfl, .head, ?_, .head, ?_⟩) | (with_reducible refine ⟨_, _, .tup, ?_⟩) | (with_reducible refine ⟨_, _, .lst, ?_⟩) | (with_reducible refine ⟨_, _, (by walk_at "sq_1"), ?_⟩)
  | (with_reducible refine ⟨_, _, _, _, _, _, _, _, _, _, rfl, .tup, .tup, ?_⟩) | (with_reducible refine ⟨_, _, _, _, _, _, _, _, _, _, rfl, .tup, .lst, ?_⟩) | (with_reducible refine ⟨_, _, _, _, _, _, _, _, _, _, rfl, .tup, (by walk_at "sq_1"), ?_⟩) | (with_reducible refine ⟨_, _, _, _, _, _, _, _, _, _, rfl, .lst, .tup, ?_⟩) | (with_reducible refine ⟨_, _, _, _, _, _, _, _, _, _, rfl, .lst, .lst, ?_⟩) | (with_reducible refine ⟨_, _, _, _, _, _, _, _, _, _, rfl, .lst, (by walk_at "sq_1"), ?_⟩) | (with_reducible refine ⟨_, _, _, _, _, _, _, _, _, _, rfl, (by walk_at "sq_1"), .tup, ?_⟩) | (with_reducible refine ⟨_, _, _, _, _, _, _, _, _, _, rfl, (by walk_at "sq_1"), .lst, ?_⟩) | (with_reducible refine ⟨_, _, _, _, _, _, _, _, _, _, rfl, (by walk_at "sq_1"), (by walk_at "sq_1"), ?_⟩) | fail)
local macro_rules | `(tactic| walk_at "use_1") => `(tactic| first | walk_at "lst_1" | fail)
local macro_rules | `(tactic| walk_at "sX_1") => `(tactic| first
  | (with_reducible refine ⟨_, rfl, ?_⟩)
  | (with_reducible refine fld_top (by assumption) ?_) | (with_reducible refine fld_bottom (by assumption) ?_)
  | (with_reducible refine ⟨_, .bl, ?_⟩)
  | ((with_reducible refine ⟨?h, ?_⟩); case h => rfl)
  | (with_reducible refine ⟨_, _, rfl, ?_⟩)
  | (with_reducible refine ⟨_, _, _, rfl, ?_⟩)
  | walk_at "use_1"
  | (with_reducible refine setN_top (by assumption) ?_) | (with_reducible refine setN_bottom (by assumption) ?_)
  | ((with_reducible refine ⟨_, _, _, ?j, _, rfl, rfl, .head, ?h, .head, ?_⟩); case h => rfl)
  | fail)
local macro_rules | `(tactic| walk_at "st_1") => `(tactic| first
  | ((with_reducible show We _ _ _ _ _ _); walk_at "sWe_1")
  | ((with_reducible show W2 _ _ _ _ _ _ _ _); walk_at "sW2_1")
  | ((with_reducible show Wa _ _ _ _ _ _); walk_at "sWa_1")
  | ((with_reducible show Ws _ _ _ _ _ _); walk_at "sWs_1")
  | ((with_reducible show Wt _ _ _ _ _ _); walk_at "sWt_1")
  | ((with_reducible show Wc _ _ _ _ _ _ _); walk_at "sWc_1")
  | ((with_reducible show Wi _ _ _ _ _ _); walk_at "sWi_1")
  | ((with_reducible show Wg _ _ _ _ _ _ _); walk_at "sWg_1")
  | ((with_reducible show W1 _ _ _ _ _ _ _); walk_at "sW1_1")
  | ((with_reducible show Wgs _ _ _ _ _ _ _); walk_at "sWgs_1")
  | walk_at "sS_1" | walk_at "sX_1" | fail)
local macro_rules | `(tactic| walk_at "br_1") => `(tactic| ((with_reducible refine ⟨fun hb => ?_, fun hb => ?_⟩) <;> (try simp only [decide_eq_true_eq, decide_eq_false_iff_not, Bool.not_eq_true', Bool.not_eq_false', Bool.and_eq_true, Bool.or_eq_true, reduceCtorEq, List.length_map, Bool.not_true, Bool.not_false, DL.isNon, not_true_eq_false, not_false_eq_true, Classical.not_not, List.all_cons, List.all_nil, id_eq, Bool.and_self, Bool.true_and, decide_true, decide_false] at hb)))
local macro_rules | `(tactic| walk_at "gn_1") => `(tactic| repeat' (first | walk_at "st_1" | walk_at "br_1" | fail))
theorem ok_lind (T : Txt G C_Ratio C_Grid C_BadShape C_BadPlace C_CarryError) (c__law_cleared : Cal G 1 "_law_cleared" 3 S_lclr []) {f : Addr} {fd : FuncData} (F : L2.Fun G.K "_law_independent" "_law_independent" s__law_independent f fd) (b : L2.Binds G.K fd ["columns"] []) : Fnx G 2 f 1 S_lind [] := by
  refine fnx_of F sc__law_independent rfl b .nil rfl (fun cdv A outer s H FF hr tk => ⟨_, (pss_cons (ps_set (i := 1) sc__law_independent.nd rfl (Or.inl rfl) (pe_lst pa_nil)) (pss_cons (ps_set (i := 2) sc__law_independent.nd rfl (Or.inl rfl) (pe_lst pa_nil)) (pss_cons (ps_for (passes_of rfl) rfl (pi_range1 rfl T.n_range (pa_cons (pe_cb cs_len rfl T.n_len bt_len (pa_cons (pe_var (i := 0) rfl (Or.inl rfl) nd_columns.1 nd_columns.2) pa_nil)) pa_nil)) (pg_name (i := 3) sc__law_independent.nd rfl (Or.inl rfl)) (pss_cons (ps_set (i := 4) sc__law_independent.nd rfl (Or.inr rfl) (pe_ct (oc := cListF G) cs_list rfl T.n_list bt_list (pa_cons (pe_ix ix_seq (pe_var (i := 0) rfl (Or.inl rfl) nd_columns.1 nd_columns.2) (pe_var (i := 3) rfl (Or.inl rfl) nd_j.1 nd_j.2) (fun _ _ => rfl)) pa_nil))) (pss_cons (ps_for (passes_of rfl) rfl (pi_seq (pe_var (i := 1) rfl (Or.inl rfl) nd_kept.1 nd_kept.2)) (pg_name (i := 5) sc__law_independent.nd rfl (Or.inl rfl)) (pss_one (ps_set (i := 4) sc__law_independent.nd rfl (Or.inr rfl) (pe_cl c__law_cleared hr (by decide) tk rfl (pa_cons (pe_var (i := 4) rfl (Or.inr (Or.inl rfl)) nd_column.1 nd_column.2) (pa_cons (pe_ix ix_seq (pe_var (i := 5) rfl (Or.inl rfl) nd_pair.1 nd_pair.2) pe_int (fun _ _ => rfl)) (pa_cons (pe_ix ix_seq (pe_var (i := 5) rfl (Or.inl rfl) nd_pair.1 nd_pair.2) pe_int (fun _ _ => rfl)) pa_nil))))))) (pss_cons (ps_setLc (i := 6) (own := [("i", 7)]) (g := (gName 7)) (tt := _) rfl sc__law_independent.nd rfl rfl (sw_true rfl rfl rfl (by decide +kernel)) (pi_range1 rfl T.n_range (pa_cons (pe_cb cs_len rfl T.n_len bt_len (pa_cons (pe_var (i := 4) rfl (Or.inr (Or.inl rfl)) nd_column.1 nd_column.2) pa_nil)) pa_nil)) (blkOk_by (N := N__law_independent) (sc := (defScope s__law_independent)) (by decide +kernel)) (fun _ _ _ _ _ => (pg_name (i := 7) sc__law_independent.nd rfl (Or.inl rfl))) (fun _ _ _ _ _ => (pts_one (pt_cm (o := oNeF G _ wNo) (os_neF (by exact hr) takes0N) (pe_ix (r := rIx G.K) ix_seq (pe_var (i := 4) rfl (Or.inr (Or.inl rfl)) nd_column.1 nd_column.2) (pe_var (i := 7) rfl (Or.inl rfl) nd_i.1 nd_i.2) (fun _ _ => rfl)) pe_int (nomark _)))) (fun _ _ _ _ _ => (pe_var (i := 7) rfl (Or.inl rfl) nd_i.1 nd_i.2))) (pss_one (ps_if (pt_cm (os_neF hr tk) (pe_var (i := 6) rfl (Or.inl rfl) nd_found.1 nd_found.2) (pe_lst pa_nil) (nomark _)) (pss_cons (ps_expr (pe_bm PySem.F.plainAttrs_list PySem.F.slot_list_append PySem.F.type_list_append mt_append (pe_var (i := 1) rfl (Or.inl rfl) nd_kept.1 nd_kept.2) (pa_cons (pe_tup (pa_cons (pe_ix ix_seq (pe_var (i := 6) rfl (Or.inl rfl) nd_found.1 nd_found.2) pe_int (fun _ _ => rfl)) (pa_cons (pe_var (i := 4) rfl (Or.inr (Or.inl rfl)) nd_column.1 nd_column.2) pa_nil))) pa_nil))) (pss_one (ps_expr (pe_bm PySem.F.plainAttrs_list PySem.F.slot_list_append PySem.F.type_list_append mt_append (pe_var (i := 2) rfl (Or.inl rfl) nd_places.1 nd_places.2) (pa_cons (pe_var (i := 3) rfl (Or.inl rfl) nd_j.1 nd_j.2) pa_nil))))) pss_nil)))))) (pss_one (ps_ret (pe_var (i := 2) rfl (Or.inl rfl) nd_places.1 nd_places.2)))))), ?_⟩)
  rintro ds m K E - ⟨h, w, C, rfl, hh, hw, hC, k⟩
  show Ws _ _ _ [some (lli (tabR w h C)), none, none, none, none, none, none, none] _ _
  try dsimp only [cx_G, cx_K]
  walk_at "gn_1"
  refine we_lstM ?_
  walk_at "gn_1"
  intro kp hkp
  walk_at "gn_1"
  refine we_lstM ?_
  walk_at "gn_1"
  intro pl hpl
  walk_at "gn_1"
  let ks : Nat → (Nat → Nat) → (Nat → Nat → Int) → List D := fun n pos v => (List.range n).map fun l => .tup [.int (pos l : Nat), li ((List.range h).map (v l))]
  let ps : Nat → (Nat → Nat) → List D := fun n P => ((List.range n).map fun j => (P j : Int)).map D.int
  let st : Nat → (Nat → Nat) → (Nat → Nat) → (Nat → Nat → Int) → Mu := fun n pos P v => (pl, .lst (ps n P)) :: (kp, .lst (ks n pos v)) :: m
  let R0 : Option D → Option D → Option D → Option D → Option D → Rho := fun o3 o4 o5 o6 o7 => [some (lli (tabR w h C)), some (.ref kp), some (.ref pl), o3, o4, o5, o6, o7]
  refine ws_range1 ?_
  walk_at "gn_1"
  rw [show (((List.map li (tabR w h C)).length : Nat) : Int) = (w : Int) by simp [tabR]]
  refine ⟨_, fun j r' m' => ∃ n pos P v, Kp h C j n pos P v ∧ m' = st n pos P v ∧ ∃ o3 o4 o5 o6 o7, r' = R0 o3 o4 o5 o6 o7, rfl, by omega, ⟨0, fun _ => 0, fun _ => 0, fun _ _ => 0, Kp.zero, rfl, none, none, none, none, none, rfl⟩, ?_, ?_⟩
  · rintro j r' m' hj ⟨n, pos, P, v, Kj, rfl, o3, o4, o5, o6, o7, rfl⟩
    have hj' : j < w := by omega
    have nj := Kj.nj
    walk_at "gn_1"
    · simp [tabR]
      omega
    rw [tabR_row hj']
    refine Ws.cut (fun r' m' => ∃ f, Kc h C j n n pos v f ∧ m' = st n pos P v ∧ ∃ o5 o6 o7, r' = R0 (some (.int (j : Nat))) (some (li ((List.range h).map f))) o5 o6 o7) ?_ ?_
    · refine ws_forI (wi_seq (we_var (d := .ref kp) rfl ⟨[kp], ks n pos v, .mutb (.tail .head), ?_⟩))
      refine ⟨fun l r' m' => ∃ f, Kc h C j n l pos v f ∧ m' = st n pos P v ∧ ∃ o5 o6 o7, r' = R0 (some (.int (j : Nat))) (some (li ((List.range h).map f))) o5 o6 o7, ⟨C j, Kc.zero fun i hi => (hC j i hj' hi).bd (by omega), rfl, _, _, _, rfl⟩, ?_, ?_, ?_⟩
      · rintro l r' m' ⟨f, _, rfl, _⟩
        exact Sub.refl
      · rintro l x r' m' hx ⟨f, Kf, rfl, o5, o6, o7, rfl⟩
        have hl : l < n := by
          have := (List.getElem?_eq_some_iff.mp hx).1
          simpa [ks] using this
        obtain rfl : .tup [.int (pos l : Nat), li ((List.range h).map (v l))] = x := by
          have e : (ks n pos v)[l]? = some (.tup [.int (pos l : Nat), li ((List.range h).map (v l))]) := by simp [ks, hl]
          exact Option.some.inj (e.symm.trans hx)
        walk_at "gn_1"
        have p5 : 2 ^ l ≤ 2 ^ 5 := Nat.pow_le_pow_right (by decide) (by omega)
        refine use_lclr (b := 4000) hh (Kj.ph l hl) (by decide) (fun i hi => (Kf.sz i hi).mono (by omega)) (fun i hi => (Kj.sz l i hl hi).mono (by omega)) ?_
        walk_at "gn_1"
        exact ⟨_, Kf.step Kj hl, rfl, _, _, _, rfl⟩
      · rintro r' m' ⟨f, Kf, rfl, o5, o6, o7, rfl⟩
        have e : (ks n pos v).length = n := by simp [ks]
        rw [e] at Kf
        exact ⟨f, Kf, rfl, _, _, _, rfl⟩
    rintro r' m' ⟨f, Kf, rfl, o5, o6, o7, rfl⟩
    walk_at "gn_1"
    have hi : (((((List.range h).map f).map D.int).length : Nat) : Int) = (h : Int) := by simp
    have hn : (((((List.range h).map f).map D.int).length : Nat) : Int).toNat = h := by simp
    have hm : ∀ {a : Nat}, a ∈ List.range ((((((List.range h).map f).map D.int).length : Nat) : Int)).toNat → a < h := fun z => by
      rw [hn] at z
      exact List.mem_range.mp z
    refine we_lcp (α := Nat) (fun i => .int (i : Int)) (fun i => decide (f i ≠ 0)) (fun i => .int (i : Int)) (gk_name (by decide)) (wi_rng1S ?_)
    walk_at "gn_1"
    · rw [hi]
      exact rngB (by omega)
    · exact Nat.ble_eq_true_of_le (by rw [List.length_range, hn]; omega)
    · rw [List.length_map, List.length_range]
      exact hm ‹_›
    · rw [range_at' (hm ‹_›)]
      refine ⟨by simp, fun _ => ?_, fun _ => rfl⟩
      walk_at "gn_1"
    rw [hn]
    generalize hfs : (List.range h).filter (fun i => decide (f i ≠ 0)) = fs
    have ef : D.lst (fs.map fun (i : Nat) => D.int (i : Int)) = li (fs.map fun (i : Nat) => (i : Int)) := by
      unfold li
      rw [List.map_map]
      rfl
    rw [ef]
    walk_at "gn_1"
    refine ws_if ?_
    walk_at "gn_1"
    refine we_lst ?_
    walk_at "gn_1"
    · cases fs with
      | nil => exact absurd rfl ‹¬ List.map (fun (i : Nat) => (i : Int)) [] = []›
      | cons q fs =>
        have hq : q ∈ (List.range h).filter (fun i => decide (f i ≠ 0)) := by rw [hfs]; exact List.mem_cons_self
        obtain ⟨q1, q2⟩ := List.mem_filter.mp hq
        have hqh := List.mem_range.mp q1
        have hq0 : f q ≠ 0 := of_decide_eq_true q2
        refine ⟨kp, _, rfl, .tail .head, ?_⟩
        walk_at "gn_1"
        · simp
        refine ⟨_, _, _, rfl, .tail .head, by simp [ks]; omega, .tail .head, ?_⟩
        walk_at "gn_1"
        · simp [ps]
          omega
        have e1 : ps n P ++ [D.int (j : Nat)] = ps (n + 1) fun l => if l = n then j else P l := by
          simp only [ps]
          rw [range_sn]
          simp only [List.map_append]
          congr 1
          · congr 1
            exact List.map_congr_left fun l hl => by
              have := List.mem_range.mp hl
              rw [if_neg (by omega)]
        have e2 : ks n pos v ++ [D.tup [D.int (q : Nat), li ((List.range h).map f)]] = ks (n + 1) (fun l => if l = n then q else pos l) fun l => if l = n then f else v l := by
          simp only [ks]
          rw [range_sn]
          simp only [List.map_append]
          congr 1
          · exact List.map_congr_left fun l hl => by
              have := List.mem_range.mp hl
              rw [if_neg (by omega), if_neg (by omega)]
        refine ⟨_, _, _, _, Kj.keep Kf hqh hq0, ?_, _, _, _, _, _, rfl⟩
        show _ = (pl, MO.lst (ps (n + 1) _)) :: (kp, MO.lst (ks (n + 1) _ _)) :: m
        rw [← e1, ← e2]
        rfl
    · have hz : ∀ i, i < h → f i = 0 := fun i hi => by
        refine Classical.byContradiction fun z => ?_
        have e : fs = [] := List.map_eq_nil_iff.mp ‹List.map (fun (i : Nat) => (i : Int)) fs = []›
        have : i ∈ (List.range h).filter (fun i => decide (f i ≠ 0)) := List.mem_filter.mpr ⟨List.mem_range.mpr hi, decide_eq_true z⟩
        rw [hfs, e] at this
        cases this
      exact ⟨n, pos, P, v, Kj.skip Kf hz, rfl, _, _, _, _, _, rfl⟩
  · rintro r' m' ⟨n, pos, P, v, Kj, rfl, o3, o4, o5, o6, o7, rfl⟩
    rw [Int.toNat_natCast] at Kj
    refine Ws.freeze (i := 2) rfl (Ws.freeze (i := 1) rfl ?_)
    walk_at "gn_1"
    exact k n pos P v Kj
end
end K10
set_option Elab.async false
set_option linter.all false
set_option maxRecDepth 100000
/-! DL27: None in a list of pairs. -/
namespace DL
open PySem PySem.Spec L2
open PyProof.Rows hiding St
def oInD (G : Gx) : O2 := fun x y _ H Q => rInD G.K x y H Q
theorem os_inD {X : Cx} {j : Nat} (hr : Room j X.A) : OpS X (compareOp .In) (oInD (Gx.of X)) := OpS.of (op_inD (by have := hr.un; omega))
def pairD (a : Int × Int) : D := .tup [.int a.1, .int a.2]
def pairP (a : Int × Int) : PyData := .tuple [.int a.1, .int a.2]
theorem pd_pairs : ∀ xs : List (Int × Int), PDs (xs.map pairD) (xs.map pairP)
  | [] => .nil
  | a :: xs => .cons (.tup (.cons (.int _) (.cons (.int _) .nil))) (pd_pairs xs)
theorem lay_pairs : ∀ xs : List (Int × Int), PyData.canLayAll0 (xs.map pairP) = true
  | [] => by simp [PyData.canLayAll0]
  | x :: xs => by simp [pairP, PyData.canLayAll0, PyData.canLay0, lay_pairs xs]
theorem dep_pairs : ∀ xs : List (Int × Int), PyData.depthAll (xs.map pairP) ≤ 3
  | [] => by simp [PyData.depthAll]
  | x :: xs => by
    have h := dep_pairs xs
    simp [pairP, PyData.depthAll, PyData.depth] at *
    omega
theorem any_pairs : ∀ xs : List (Int × Int), ((xs.map pairP).any fun z => PyData.eqv z .none) = false
  | [] => rfl
  | x :: xs => by
    rw [List.map_cons, List.any_cons, any_pairs xs]
    simp [pairP, PyData.eqv]
theorem w2_noneIn {W : WX} {E : ET} {r : Rho} {m : Mu} {K : KT} {G : Gx} {xs : List (Int × Int)} (h : K (.bl false) m) : W2 W E (oInD G) .non (.lst (xs.map pairD)) r m K := fun s H Q a b e z ra rb g =>
  ⟨.none, xs.map pairP, PD.non.dp ra, (PD.lst (pd_pairs xs)).dp rb, by simp [PySem.SeqAt.shaped, PyData.canLay0, PyData.depth], by
    have := dep_pairs xs
    simp [PySem.SeqAt.shaped, PyData.canLay0, lay_pairs xs, PyData.depth]
    omega, by
    rw [any_pairs]
    exact g _ m _ H (Stp.refl _ _) e.mu (.bl _) h⟩
end DL
set_option Elab.async false
set_option linter.all false
set_option maxRecDepth 100000
set_option maxHeartbeats 4000000
namespace K10
open PySem PySem.Spec L2 DL
open PyProof.Rows hiding St
/-! one step, by the goal's head -/

/-! Ratio and Span by numbers: their promises used -/

/-! comprehensions, sums, lists of others -/

/-! lists that may be written -/

def S_pair (C : Addr) : SpecD := fun ds m K _ => ∃ x : Rat, ds = [rq C x] ∧ Qb 990 x ∧ K (.tup [.int x.num, .int (x.den : Int)]) m
theorem use_pair {C : Addr} {x : Rat} {m : Mu} {K : KT} {E : Ex → Mu → Prop} (hx : Qb 990 x) (k : K (.tup [.int x.num, .int (x.den : Int)]) m) : S_pair C [rq C x] m K E := ⟨x, rfl, hx, k⟩
section
variable {G : Gx} {C_Ratio C_Grid C_BadShape C_BadPlace C_CarryError : Addr}
local macro_rules | `(tactic| walk_at "fld_1") => `(tactic| (with_reducible refine we_fldF ?_))
local macro_rules | `(tactic| walk_at "useWe_1") => `(tactic| first
  | ((with_reducible apply we_lcs); case gk => first | exact gk_name rfl | exact gk_tup (gks_cons (gk_name rfl) (gks_cons (gk_name rfl) gks_nil)))
  | (with_reducible refine we_slPre ?_) | (with_reducible refine we_slSuf ?_) | (with_reducible refine we_app ?_) | (with_reducible refine we_mt ?_) | (with_reducible refine we_grd ?_) | (with_reducible refine we_ratQ ?_) | (with_reducible refine we_ratQ1 ?_) | fail)
local macro_rules | `(tactic| walk_at "sWe_1") => `(tactic| first
  | ((with_reducible refine we_var (d := ?d) ?hv ?hk); case hv => rfl)
  | (with_reducible first
    | refine we_cint ?_ | refine we_2 ?_ | refine we_cl0 ?_ | refine we_tup ?_ | refine we_1 ?_ | refine we_c2 ?_ | refine we_cbl ?_ | refine we_cnon ?_ | refine we_cty ?_ | refine we_cref ?_
    | refine we_op ?_ | refine we_andV ?_ | refine we_orV ?_ | refine we_notV ?_ | refine we_3 ?_ | refine we_ifx ?_ | refine we_cstr ?_ | refine we_clH ?_)
  | walk_at "fld_1"
  | walk_at "useWe_1")
local macro_rules | `(tactic| walk_at "useW2_1") => `(tactic| first
  | (with_reducible refine w2_eqRN ?_) | (with_reducible refine w2_eqLN ?_) | (with_reducible refine w2_eqLli ?_) | (with_reducible refine w2_eqLi ?_)
  | (with_reducible refine w2_ixT ⟨ix_map0 ?_, ?_⟩) | (with_reducible refine w2_ixL ⟨ix_map0 ?_, ?_⟩) | (with_reducible refine w2_ixT ⟨ix_map ?_, ?_⟩) | (with_reducible refine w2_ixL ⟨ix_map ?_, ?_⟩)
  | (with_reducible refine w2_addO (by assumption) (by decide) .fixed .fixed ?_) | (with_reducible refine w2_subO (by assumption) (by decide) .fixed .fixed ?_) | (with_reducible refine w2_mulO (by assumption) (by decide) .fixed .fixed ?_) | (with_reducible refine w1_negO (by assumption) (by decide) .fixed ?_)
  | (with_reducible refine w2_catL .lst .lst ?_ ?_) | fail)
local macro_rules | `(tactic| walk_at "sW2_1") => `(tactic| first
  | (with_reducible first
    | refine w2_add ?_ | refine w2_sub ?_ | refine w2_mul ⟨?_, ?_⟩ | refine w2_fdiv ⟨?_, ?_⟩ | refine w2_mod ⟨?_, ?_⟩ | refine w2_pow ⟨?_, ?_⟩ | refine w2_eqI ?_ | refine w2_neI ?_ | refine w2_lt ?_ | refine w2_le ?_ | refine w2_gt ?_ | refine w2_ge ?_ | refine w2_eqFI ?_ | refine w2_neFI ?_)
  | ((with_reducible refine w2_ixT (d := ?d) ⟨?hv, ?hk⟩); case hv => rfl)
  | ((with_reducible refine w2_ixL (d := ?d) ⟨?hv, ?hk⟩); case hv => rfl)
  | ((with_reducible refine w2_ixM (d := ?d) .head ⟨?hv, ?hk⟩); case hv => rfl)
  | (with_reducible first
    | refine w2_eqIH ?_ | refine w2_neIH ?_ | refine w2_mulH ⟨?_, ?_⟩ | refine w2_addH ?_ | refine w2_subH ?_ | refine w2_isN ?_ | refine w2_notN ?_ | refine w2_isB ?_ | refine w2_notB ?_)
  | walk_at "useW2_1")
local macro_rules | `(tactic| walk_at "sWa_1") => `(tactic| with_reducible first | refine wa_nil ?_ | refine wa_cons ?_)
local macro_rules | `(tactic| walk_at "useWs_1") => `(tactic| first | (with_reducible refine ws_rs0 ?_) | (with_reducible refine ws_rs ?_) | fail)
local macro_rules | `(tactic| walk_at "sWs_1") => `(tactic| first
  | (with_reducible first | refine ws_seq ?_ | refine ws_ret ?_ | refine ws_asg ?_ | refine ws_next ?_ | refine ws_drop ?_ | refine ws_par ?_ | refine ws_par3 ?_ | refine ws_fldN ?_ | refine ws_brk ?_ | refine ws_cont ?_)
  | walk_at "useWs_1")
local macro_rules | `(tactic| walk_at "sWt_1") => `(tactic| with_reducible first | refine wt_test ?_ | refine wt_tr ?_ | refine wt_and ?_ | refine wt_or ?_ | refine wt_not ?_)
local macro_rules | `(tactic| walk_at "useWc_1") => `(tactic| with_reducible refine wc_isiC (.ins (by assumption)) (by assumption) ?_)
local macro_rules | `(tactic| walk_at "sWc_1") => `(tactic| first
  | (with_reducible first | refine wc_int ?_ | refine wc_abs ?_ | refine wc_min ?_ | refine wc_gcd ?_ | refine wc_isiT .int kit_ii ?_ | refine wc_isiT .int kit_ib ?_ | refine wc_len .lst ?_ | refine wc_len .tup ?_ | refine wc_strI ?_ ?_)
  | walk_at "useWc_1")
local macro_rules | `(tactic| walk_at "sWi_1") => `(tactic| with_reducible first | refine wi_seq ?_ | refine wi_rng1S ?_ | refine wi_rng2 ?_ | refine wi_zipM ?_)
local macro_rules | `(tactic| walk_at "sWg_1") => `(tactic| with_reducible first | refine wg_name ?_ | refine wg_subM ?_ | refine wg_tup rfl ?_)
local macro_rules | `(tactic| walk_at "sW1_1") => `(tactic| first | (with_reducible refine w1_neg ?_) | walk_at "useW2_1")
local macro_rules | `(tactic| walk_at "sWgs_1") => `(tactic| with_reducible first | refine wgs_cons ?_ | refine wgs_nil ?_)
local macro_rules | `(tactic| walk_at "sS_1") => `(tactic| first | (with_reducible refine SlA.mk ?_ ?_) | (with_reducible refine RngA.mk ?_ ?_) | (with_reducible refine LcS.mk ?_ (fun a ha q => ?_) ?_) | (with_reducible exact LcL.mk rfl rfl) | fail)
local macro_rules | `(tactic| walk_at "use_1") => `(tactic| first | (with_reducible refine use_whole ?_) | fail)
local macro_rules | `(tactic| walk_at "sX_1") => `(tactic| first
  | (with_reducible refine ⟨_, rfl, ?_⟩)
  | (with_reducible refine fld_top (by assumption) ?_) | (with_reducible refine fld_bottom (by assumption) ?_)
  | (with_reducible refine ⟨_, .bl, ?_⟩)
  | ((with_reducible refine ⟨?h, ?_⟩); case h => rfl)
  | (with_reducible refine ⟨_, _, rfl, ?_⟩)
  | (with_reducible refine ⟨_, _, _, rfl, ?_⟩)
  | walk_at "use_1"
  | (with_reducible refine setN_top (by assumption) ?_) | (with_reducible refine setN_bottom (by assumption) ?_)
  | ((with_reducible refine ⟨_, _, _, ?j, _, rfl, rfl, .head, ?h, .head, ?_⟩); case h => rfl)
  | fail)
local macro_rules | `(tactic| walk_at "st_1") => `(tactic| first
  | ((with_reducible show We _ _ _ _ _ _); walk_at "sWe_1")
  | ((with_reducible show W2 _ _ _ _ _ _ _ _); walk_at "sW2_1")
  | ((with_reducible show Wa _ _ _ _ _ _); walk_at "sWa_1")
  | ((with_reducible show Ws _ _ _ _ _ _); walk_at "sWs_1")
  | ((with_reducible show Wt _ _ _ _ _ _); walk_at "sWt_1")
  | ((with_reducible show Wc _ _ _ _ _ _ _); walk_at "sWc_1")
  | ((with_reducible show Wi _ _ _ _ _ _); walk_at "sWi_1")
  | ((with_reducible show Wg _ _ _ _ _ _ _); walk_at "sWg_1")
  | ((with_reducible show W1 _ _ _ _ _ _ _); walk_at "sW1_1")
  | ((with_reducible show Wgs _ _ _ _ _ _ _); walk_at "sWgs_1")
  | walk_at "sS_1" | walk_at "sX_1" | fail)
local macro_rules | `(tactic| walk_at "wif_1") => `(tactic| (with_reducible refine ws_if ?_))
local macro_rules | `(tactic| walk_at "br_1") => `(tactic| ((with_reducible refine ⟨fun hb => ?_, fun hb => ?_⟩) <;> (try simp only [decide_eq_true_eq, decide_eq_false_iff_not, Bool.not_eq_true', Bool.not_eq_false', Bool.and_eq_true, Bool.or_eq_true, reduceCtorEq, List.length_map, Bool.not_true, Bool.not_false, DL.isNon, not_true_eq_false, not_false_eq_true, Classical.not_not, List.all_cons, List.all_nil, id_eq, Bool.and_self, Bool.true_and, decide_true, decide_false] at hb)))
local macro_rules | `(tactic| walk_at "go_1") => `(tactic| repeat' (first | walk_at "st_1" | walk_at "wif_1" | walk_at "br_1" | fail))
theorem ok_pair (T : Txt G C_Ratio C_Grid C_BadShape C_BadPlace C_CarryError) (c__law_whole : Cal G 1 "_law_whole" 1 S_whole []) {f : Addr} {fd : FuncData} (F : L2.Fun G.K "_law_pair" "_law_pair" s__law_pair f fd) (b : L2.Binds G.K fd ["told"] []) : Fnx G 2 f 1 (S_pair C_Ratio) [] := by
  refine fnx_of F sc__law_pair rfl b .nil rfl (fun cdv A outer s H FF hr tk => ⟨_, (pss_cons (ps_if (PW.pt (pw_or (pt_not (pt_tr (pe_cb cs_isi rfl T.n_isinstance bt_isinstance (pa_cons (pe_var (i := 0) rfl (Or.inl rfl) nd_told.1 nd_told.2) (pa_cons (pe_glob (v := .ref C_Ratio) rfl T.mg_Ratio rfl) pa_nil))))) (pw_or (pt_not (pt_tr (pe_cl c__law_whole hr (by decide) tk rfl (pa_cons (pe_fld (pe_var (i := 0) rfl (Or.inl rfl) nd_told.1 nd_told.2) rfl) pa_nil)))) (pw_or1 (pt_not (pt_tr (pe_cl c__law_whole hr (by decide) tk rfl (pa_cons (pe_fld (pe_var (i := 0) rfl (Or.inl rfl) nd_told.1 nd_told.2) rfl) pa_nil)))))))) (pss_one (ps_ret pe_non)) pss_nil) (pss_cons (ps_if (pt_cm os_lt (pe_fld (pe_var (i := 0) rfl (Or.inl rfl) nd_told.1 nd_told.2) rfl) pe_int (nomark _)) (pss_one (ps_ret pe_non)) pss_nil) (pss_cons (ps_set (i := 1) sc__law_pair.nd rfl (Or.inl rfl) (pe_cb cs_abs rfl T.n_abs bt_abs (pa_cons (pe_fld (pe_var (i := 0) rfl (Or.inl rfl) nd_told.1 nd_told.2) rfl) pa_nil))) (pss_cons (ps_set (i := 2) sc__law_pair.nd rfl (Or.inl rfl) (pe_fld (pe_var (i := 0) rfl (Or.inl rfl) nd_told.1 nd_told.2) rfl)) (pss_cons (ps_for (passes_of rfl) rfl (pi_range1 rfl T.n_range (pa_cons pe_int pa_nil)) (pg_name (i := 3) sc__law_pair.nd rfl (Or.inl rfl)) (pss_cons (ps_if (pt_cm (os_eqF hr tk) (pe_var (i := 2) rfl (Or.inl rfl) nd_v.1 nd_v.2) pe_int (nomark _)) (pss_one ps_break) pss_nil) (pss_cons (ps_set (i := 4) sc__law_pair.nd rfl (Or.inl rfl) (pe_bin os_mod (pe_ct cs_int rfl T.n_int bt_int (pa_cons (pe_var (i := 1) rfl (Or.inl rfl) nd_u.1 nd_u.2) pa_nil)) (pe_var (i := 2) rfl (Or.inl rfl) nd_v.1 nd_v.2))) (pss_cons (ps_set (i := 1) sc__law_pair.nd rfl (Or.inl rfl) (pe_var (i := 2) rfl (Or.inl rfl) nd_v.1 nd_v.2)) (pss_one (ps_set (i := 2) sc__law_pair.nd rfl (Or.inl rfl) (pe_var (i := 4) rfl (Or.inl rfl) nd_rest.1 nd_rest.2))))))) (pss_cons (ps_if (pt_cm (os_neF hr tk) (pe_var (i := 1) rfl (Or.inl rfl) nd_u.1 nd_u.2) pe_int (nomark _)) (pss_one (ps_ret pe_non)) pss_nil) (pss_one (ps_ret (pe_tup (pa_cons (pe_fld (pe_var (i := 0) rfl (Or.inl rfl) nd_told.1 nd_told.2) rfl) (pa_cons (pe_fld (pe_var (i := 0) rfl (Or.inl rfl) nd_told.1 nd_told.2) rfl) pa_nil))))))))))), ?_⟩)
  rintro ds m K E - ⟨x, rfl, hx, k⟩
  show Ws _ _ _ [some (rq C_Ratio x), none, none, none, none] _ _
  try dsimp only [cx_G, cx_K]
  have R := T.R_Ratio
  have RI := R.ins
  have iR := T.is_Ratio_Ratio
  have p := den_pos x
  walk_at "go_1"
  · omega
  refine ws_range1 ?_
  walk_at "go_1"
  refine ⟨_, fun i r' m' => m' = m ∧ ∃ (u v : Nat) (o3 o4 : Option D), r' = [some (rq C_Ratio x), some (.int u), some (.int v), o3, o4] ∧ Nat.gcd u v = 1 ∧ EuF x.den i u v, rfl, by omega, ?_, ?_, ?_⟩
  · exact ⟨rfl, x.num.natAbs, x.den, _, _, rfl, x.reduced, .inl ⟨rfl, rfl⟩⟩
  · rintro i r' m' hi ⟨rfl, u, v, o3, o4, rfl, hg, he⟩
    have fin : (v : Int) = 0 → u = 1 := fun h => by
      have h' : v = 0 := Int.natCast_eq_zero.mp h
      rw [h', Nat.gcd_zero_right] at hg
      exact hg
    walk_at "go_1"
    all_goals try first
      | exact k
      | (exfalso; have := fin ‹_›; omega)
      | exact ‹¬ _›
    have hy : 0 < v := by omega
    have e : ((u : Int).fmod (v : Int)) = ((u % v : Nat) : Int) := by
      rw [Int.fmod_eq_emod_of_nonneg _ (by omega)]
      exact (Int.natCast_emod u v).symm
    rw [e]
    refine ⟨v, u % v, _, _, rfl, ?_, he.step hy⟩
    rw [← hg, Nat.gcd_comm u v, Nat.gcd_rec v u, Nat.gcd_comm]
  · rintro r' m' ⟨rfl, u, v, o3, o4, rfl, hg, he⟩
    have e : (2000 : Int).toNat = 2 * 999 + 2 := by decide
    rw [e] at he
    exact (he.earlyL (by
      have := hx.b
      unfold Bd at this
      rw [Int.natAbs_natCast] at this
      exact Nat.lt_of_lt_of_le this (Nat.pow_le_pow_right (by decide) (by decide)))).elim
/-- what the law looks at of a mixture, in whole numbers -/
structure MxA (h w n at_ : Nat) (C : Nat → Nat → Int) (P : Nat → Nat) (X : Nat → Rat) (s : Int) (t : Nat → Int) : Prop where
  hh : h ≤ 5
  hw : w ≤ 6
  hn : n ≤ 6
  ha : at_ < w
  lt : ∀ k, k < n → P k < w
  qb : ∀ k, k < n → Qb 640 (X k)
  cb : ∀ j i, j < w → i < h → Bd 40 (C j i)
  s0 : s ≠ 0
  x : ∀ k, k < n → s * (X k).num = t k * ((X k).den : Int)
  a : ∀ k, k < n → at_ < P k → (X k).num = 0
  b : ∀ i, i < h → s * C at_ i = sm n fun k => t k * C (P k) i
def S_ismix (CR : Addr) : SpecD := fun ds m K _ => ∃ (h w n a : Nat) (C : Nat → Nat → Int) (P : Nat → Nat) (X : Nat → Rat) (s : Int) (t : Nat → Int),
  ds = [.lst ((List.range n).map fun k => rq CR (X k)), lli (tabR w h C), li ((List.range n).map fun k => (P k : Int)), .int (a : Nat)] ∧ MxA h w n a C P X s t ∧ K (.bl true) m
theorem use_ismix {CR : Addr} {h w n a : Nat} {C : Nat → Nat → Int} {P : Nat → Nat} {X : Nat → Rat} {s : Int} {t : Nat → Int} {m : Mu} {K : KT} {E : Ex → Mu → Prop} (M : MxA h w n a C P X s t) (k : K (.bl true) m) :
    S_ismix CR [.lst ((List.range n).map fun k => rq CR (X k)), lli (tabR w h C), li ((List.range n).map fun k => (P k : Int)), .int (a : Nat)] m K E := ⟨h, w, n, a, C, P, X, s, t, rfl, M, k⟩
local macro_rules | `(tactic| walk_at "fld_2") => `(tactic| (with_reducible refine we_fldF ?_))
local macro_rules | `(tactic| walk_at "useWe_2") => `(tactic| first
  | ((with_reducible apply we_lcs); case gk => first | exact gk_name rfl | exact gk_tup (gks_cons (gk_name rfl) (gks_cons (gk_name rfl) gks_nil)))
  | (with_reducible refine we_slPre ?_) | (with_reducible refine we_slSuf ?_) | (with_reducible refine we_app ?_) | (with_reducible refine we_mt ?_) | (with_reducible refine we_grd ?_) | (with_reducible refine we_ratQ ?_) | (with_reducible refine we_ratQ1 ?_) | fail)
local macro_rules | `(tactic| walk_at "sWe_2") => `(tactic| first
  | ((with_reducible refine we_var (d := ?d) ?hv ?hk); case hv => rfl)
  | (with_reducible first
    | refine we_cint ?_ | refine we_2 ?_ | refine we_cl0 ?_ | refine we_tup ?_ | refine we_1 ?_ | refine we_c2 ?_ | refine we_cbl ?_ | refine we_cnon ?_ | refine we_cty ?_ | refine we_cref ?_
    | refine we_op ?_ | refine we_andV ?_ | refine we_orV ?_ | refine we_notV ?_ | refine we_3 ?_ | refine we_ifx ?_ | refine we_cstr ?_ | refine we_clH ?_)
  | walk_at "fld_2"
  | walk_at "useWe_2")
local macro_rules | `(tactic| walk_at "useW2_2") => `(tactic| first
  | (with_reducible refine w2_eqRN ?_) | (with_reducible refine w2_eqLN ?_) | (with_reducible refine w2_eqLli ?_) | (with_reducible refine w2_eqLi ?_)
  | (with_reducible refine w2_ixT ⟨ix_map0 ?_, ?_⟩) | (with_reducible refine w2_ixL ⟨ix_map0 ?_, ?_⟩) | (with_reducible refine w2_ixT ⟨ix_map ?_, ?_⟩) | (with_reducible refine w2_ixL ⟨ix_map ?_, ?_⟩)
  | (with_reducible refine w2_addO (by assumption) (by decide) .fixed .fixed ?_) | (with_reducible refine w2_subO (by assumption) (by decide) .fixed .fixed ?_) | (with_reducible refine w2_mulO (by assumption) (by decide) .fixed .fixed ?_) | (with_reducible refine w1_negO (by assumption) (by decide) .fixed ?_)
  | (with_reducible refine w2_catL .lst .lst ?_ ?_) | fail)
local macro_rules | `(tactic| walk_at "sW2_2") => `(tactic| first
  | (with_reducible first
    | refine w2_add ?_ | refine w2_sub ?_ | refine w2_mul ⟨?_, ?_⟩ | refine w2_fdiv ⟨?_, ?_⟩ | refine w2_mod ⟨?_, ?_⟩ | refine w2_pow ⟨?_, ?_⟩ | refine w2_eqI ?_ | refine w2_neI ?_ | refine w2_lt ?_ | refine w2_le ?_ | refine w2_gt ?_ | refine w2_ge ?_ | refine w2_eqFI ?_ | refine w2_neFI ?_)
  | ((with_reducible refine w2_ixT (d := ?d) ⟨?hv, ?hk⟩); case hv => rfl)
  | ((with_reducible refine w2_ixL (d := ?d) ⟨?hv, ?hk⟩); case hv => rfl)
  | ((with_reducible refine w2_ixM (d := ?d) .head ⟨?hv, ?hk⟩); case hv => rfl)
  | (with_reducible first
    | refine w2_eqIH ?_ | refine w2_neIH ?_ | refine w2_mulH ⟨?_, ?_⟩ | refine w2_addH ?_ | refine w2_subH ?_ | refine w2_isN ?_ | refine w2_notN ?_ | refine w2_isB ?_ | refine w2_notB ?_)
  | walk_at "useW2_2")
local macro_rules | `(tactic| walk_at "sWa_2") => `(tactic| with_reducible first | refine wa_nil ?_ | refine wa_cons ?_)
local macro_rules | `(tactic| walk_at "useWs_2") => `(tactic| first | (with_reducible refine ws_rs0 ?_) | (with_reducible refine ws_rs ?_) | fail)
local macro_rules | `(tactic| walk_at "sWs_2") => `(tactic| first
  | (with_reducible first | refine ws_seq ?_ | refine ws_ret ?_ | refine ws_asg ?_ | refine ws_next ?_ | refine ws_drop ?_ | refine ws_par ?_ | refine ws_par3 ?_ | refine ws_fldN ?_ | refine ws_brk ?_ | refine ws_cont ?_)
  | walk_at "useWs_2")
local macro_rules | `(tactic| walk_at "sWt_2") => `(tactic| with_reducible first | refine wt_test ?_ | refine wt_tr ?_ | refine wt_and ?_ | refine wt_or ?_ | refine wt_not ?_)
local macro_rules | `(tactic| walk_at "useWc_2") => `(tactic| first
  | (with_reducible refine wc_len (LstM.len (by assumption)) ?_) | (with_reducible refine wc_len (SeqM.len (by assumption)) ?_) | fail)
local macro_rules | `(tactic| walk_at "sWc_2") => `(tactic| first
  | (with_reducible first | refine wc_int ?_ | refine wc_abs ?_ | refine wc_min ?_ | refine wc_gcd ?_ | refine wc_isiT .int kit_ii ?_ | refine wc_isiT .int kit_ib ?_ | refine wc_len .lst ?_ | refine wc_len .tup ?_ | refine wc_strI ?_ ?_)
  | walk_at "useWc_2")
local macro_rules | `(tactic| walk_at "sWi_2") => `(tactic| with_reducible first | refine wi_seq ?_ | refine wi_rng1S ?_ | refine wi_rng2 ?_ | refine wi_zipM ?_)
local macro_rules | `(tactic| walk_at "sWg_2") => `(tactic| with_reducible first | refine wg_name ?_ | refine wg_subM ?_ | refine wg_tup rfl ?_)
local macro_rules | `(tactic| walk_at "sW1_2") => `(tactic| first | (with_reducible refine w1_neg ?_) | walk_at "useW2_2")
local macro_rules | `(tactic| walk_at "sWgs_2") => `(tactic| with_reducible first | refine wgs_cons ?_ | refine wgs_nil ?_)
local macro_rules | `(tactic| walk_at "sS_2") => `(tactic| first | (with_reducible refine SlA.mk ?_ ?_) | (with_reducible refine RngA.mk ?_ ?_) | (with_reducible refine LcS.mk ?_ (fun a ha q => ?_) ?_) | (with_reducible exact LcL.mk rfl rfl) | fail)
local macro_rules | `(tactic| walk_at "sq_2") => `(tactic| first | assumption | exact SeqM.cons (by assumption) | exact SeqM.cons (SeqM.cons (by assumption)))
local macro_rules | `(tactic| walk_at "lst_2") => `(tactic| first
  | (with_reducible refine ⟨_, _, rfl, .head, ?_⟩) | (with_reducible refine ⟨_, _, _, rfl, .head, ?_, .head, ?_⟩) | (with_reducible refine ⟨_, _, .tup, ?_⟩) | (with_reducible refine ⟨_, _, .lst, ?_⟩) | (with_reducible refine ⟨_, _, (by walk_at "sq_2"), ?_⟩)
  | (with_reducible refine ⟨_, _, _, _, _, _, _, _, _, _, rfl, .tup, .tup, ?_⟩) | (with_reducible refine ⟨_, _, _, _, _, _, _, _, _, _, rfl, .tup, .lst, ?_⟩) | (with_reducible refine ⟨_, _, _, _, _, _, _, _, _, _, rfl, .tup, (by walk_at "sq_2"), ?_⟩) | (with_reducible refine ⟨_, _, _, _, _, _, _, _, _, _, rfl, .lst, .tup, ?_⟩) | (with_reducible refine ⟨_, _, _, _, _, _, _, _, _, _, rfl, .lst, .lst, ?_⟩) | (with_reducible refine ⟨_, _, _, _, _, _, _, _, _, _, rfl, .lst, (by walk_at "sq_2"), ?_⟩) | (with_reducible refine ⟨_, _, _, _, _, _, _, _, _, _, rfl, (by walk_at "sq_2"), .tup, ?_⟩) | (with_reducible refine ⟨_, _, _, _, _, _, _, _, _, _, rfl, (by walk_at "sq_2"), .lst, ?_⟩) | (with_reducible refine ⟨_, _, _, _, _, _, _, _, _, _, rfl, (by walk_at "sq_2"), (by walk_at "sq_2"), ?_⟩) | fail)
local macro_rules | `(tactic| walk_at "use_2") => `(tactic| first | walk_at "lst_2" | fail)
local macro_rules | `(tactic| walk_at "sX_2") => `(tactic| first
  | (with_reducible refine ⟨_, rfl, ?_⟩)
  | (with_reducible refine fld_top (by assumption) ?_) | (with_reducible refine fld_bottom (by assumption) ?_)
  | (with_reducible refine ⟨_, .bl, ?_⟩)
  | ((with_reducible refine ⟨?h, ?_⟩); case h => rfl)
  | (with_reducible refine ⟨_, _, rfl, ?_⟩)
  | (with_reducible refine ⟨_, _, _, rfl, ?_⟩)
  | walk_at "use_2"
  | (with_reducible refine setN_top (by assumption) ?_) | (with_reducible refine setN_bottom (by assumption) ?_)
  | ((with_reducible refine ⟨_, _, _, ?j, _, rfl, rfl, .head, ?h, .head, ?_⟩); case h => rfl)
  | fail)
local macro_rules | `(tactic| walk_at "st_2") => `(tactic| first
  | ((with_reducible show We _ _ _ _ _ _); walk_at "sWe_2")
  | ((with_reducible show W2 _ _ _ _ _ _ _ _); walk_at "sW2_2")
  | ((with_reducible show Wa _ _ _ _ _ _); walk_at "sWa_2")
  | ((with_reducible show Ws _ _ _ _ _ _); walk_at "sWs_2")
  | ((with_reducible show Wt _ _ _ _ _ _); walk_at "sWt_2")
  | ((with_reducible show Wc _ _ _ _ _ _ _); walk_at "sWc_2")
  | ((with_reducible show Wi _ _ _ _ _ _); walk_at "sWi_2")
  | ((with_reducible show Wg _ _ _ _ _ _ _); walk_at "sWg_2")
  | ((with_reducible show W1 _ _ _ _ _ _ _); walk_at "sW1_2")
  | ((with_reducible show Wgs _ _ _ _ _ _ _); walk_at "sWgs_2")
  | walk_at "sS_2" | walk_at "sX_2" | fail)
local macro_rules | `(tactic| walk_at "br_2") => `(tactic| ((with_reducible refine ⟨fun hb => ?_, fun hb => ?_⟩) <;> (try simp only [decide_eq_true_eq, decide_eq_false_iff_not, Bool.not_eq_true', Bool.not_eq_false', Bool.and_eq_true, Bool.or_eq_true, reduceCtorEq, List.length_map, Bool.not_true, Bool.not_false, DL.isNon, not_true_eq_false, not_false_eq_true, Classical.not_not, List.all_cons, List.all_nil, id_eq, Bool.and_self, Bool.true_and, decide_true, decide_false] at hb)))
local macro_rules | `(tactic| walk_at "gn_2") => `(tactic| repeat' (first | walk_at "st_2" | walk_at "br_2" | fail))
theorem ok_ismix (T : Txt G C_Ratio C_Grid C_BadShape C_BadPlace C_CarryError) (c__law_pair : Cal G 2 "_law_pair" 1 (S_pair C_Ratio) []) {f : Addr} {fd : FuncData} (F : L2.Fun G.K "_law_is_mixture" "_law_is_mixture" s__law_is_mixture f fd) (b : L2.Binds G.K fd ["told", "columns", "places", "at"] []) : Fnx G 3 f 4 (S_ismix C_Ratio) [] := by
  refine fnx_of F sc__law_is_mixture rfl b .nil rfl (fun cdv A outer s H FF hr tk => ⟨_, (pss_cons (ps_if (PW.pt (pw_or (pt_not (pt_tr (pe_cb cs_isi rfl T.n_isinstance bt_isinstance (pa_cons (pe_var (i := 0) rfl (Or.inl rfl) nd_told.1 nd_told.2) (pa_cons (pe_bltn (v := .ty "list") rfl T.n_list bt_list rfl) pa_nil))))) (pw_or1 (pt_cm (os_neF hr tk) (pe_cb cs_len rfl T.n_len bt_len (pa_cons (pe_var (i := 0) rfl (Or.inl rfl) nd_told.1 nd_told.2) pa_nil)) (pe_cb cs_len rfl T.n_len bt_len (pa_cons (pe_var (i := 2) rfl (Or.inl rfl) nd_places.1 nd_places.2) pa_nil)) (nomark _))))) (pss_one (ps_ret pe_bl)) pss_nil) (pss_cons (ps_setLc (i := 4) (own := [("one", 5)]) (g := (gName 5)) (tt := tYes) rfl sc__law_is_mixture.nd rfl rfl (sw_true rfl rfl rfl (by decide +kernel)) (pi_seqK (KK := G.K) (by rfl) (pe_var (i := 0) rfl (Or.inl rfl) nd_told.1 nd_told.2)) (blkOk_by (N := N__law_is_mixture) (sc := (defScope s__law_is_mixture)) (by decide +kernel)) (fun _ _ _ _ _ => (pg_name (i := 5) sc__law_is_mixture.nd rfl (Or.inl rfl))) (fun _ _ _ _ _ => pts_nil) (fun _ _ _ _ _ => (pe_cl c__law_pair hr (by decide) takes0N rfl (pa_cons (pe_var (i := 5) rfl (Or.inl rfl) nd_one.1 nd_one.2) pa_nil)))) (pss_cons (ps_if (pt_cm (os_inD hr) pe_non (pe_var (i := 4) rfl (Or.inl rfl) nd_pairs.1 nd_pairs.2) rfl) (pss_one (ps_ret pe_bl)) pss_nil) (pss_cons (ps_for (passes_of rfl) rfl (pi_range1 rfl T.n_range (pa_cons (pe_cb cs_len rfl T.n_len bt_len (pa_cons (pe_var (i := 2) rfl (Or.inl rfl) nd_places.1 nd_places.2) pa_nil)) pa_nil)) (pg_name (i := 6) sc__law_is_mixture.nd rfl (Or.inl rfl)) (pss_one (ps_if (PW.pt (pw_and (pt_cm os_gt (pe_ix ix_seq (pe_var (i := 2) rfl (Or.inl rfl) nd_places.1 nd_places.2) (pe_var (i := 6) rfl (Or.inl rfl) nd_k.1 nd_k.2) (fun _ _ => rfl)) (pe_var (i := 3) rfl (Or.inl rfl) nd_at.1 nd_at.2) (nomark _)) (pw_and1 (pt_cm (os_neF hr tk) (pe_ix ix_seq (pe_ix ix_seq (pe_var (i := 4) rfl (Or.inl rfl) nd_pairs.1 nd_pairs.2) (pe_var (i := 6) rfl (Or.inl rfl) nd_k.1 nd_k.2) (fun _ _ => rfl)) pe_int (fun _ _ => rfl)) pe_int (nomark _))))) (pss_one (ps_ret pe_bl)) pss_nil))) (pss_cons (ps_for (passes_of rfl) rfl (pi_range1 rfl T.n_range (pa_cons (pe_cb cs_len rfl T.n_len bt_len (pa_cons (pe_ix ix_seq (pe_var (i := 1) rfl (Or.inl rfl) nd_columns.1 nd_columns.2) (pe_var (i := 3) rfl (Or.inl rfl) nd_at.1 nd_at.2) (fun _ _ => rfl)) pa_nil)) pa_nil)) (pg_name (i := 7) sc__law_is_mixture.nd rfl (Or.inl rfl)) (pss_cons (ps_set (i := 8) sc__law_is_mixture.nd rfl (Or.inl rfl) pe_int) (pss_cons (ps_set (i := 9) sc__law_is_mixture.nd rfl (Or.inl rfl) pe_int) (pss_cons (ps_for (passes_of rfl) rfl (pi_range1 rfl T.n_range (pa_cons (pe_cb cs_len rfl T.n_len bt_len (pa_cons (pe_var (i := 2) rfl (Or.inl rfl) nd_places.1 nd_places.2) pa_nil)) pa_nil)) (pg_name (i := 6) sc__law_is_mixture.nd rfl (Or.inl rfl)) (pss_cons (ps_set (i := 10) sc__law_is_mixture.nd rfl (Or.inl rfl) (pe_bin (os_mul hr tk) (pe_ix ix_seq (pe_ix ix_seq (pe_var (i := 4) rfl (Or.inl rfl) nd_pairs.1 nd_pairs.2) (pe_var (i := 6) rfl (Or.inl rfl) nd_k.1 nd_k.2) (fun _ _ => rfl)) pe_int (fun _ _ => rfl)) (pe_ix ix_seq (pe_ix ix_seq (pe_var (i := 1) rfl (Or.inl rfl) nd_columns.1 nd_columns.2) (pe_ix ix_seq (pe_var (i := 2) rfl (Or.inl rfl) nd_places.1 nd_places.2) (pe_var (i := 6) rfl (Or.inl rfl) nd_k.1 nd_k.2) (fun _ _ => rfl)) (fun _ _ => rfl)) (pe_var (i := 7) rfl (Or.inl rfl) nd_i.1 nd_i.2) (fun _ _ => rfl)))) (pss_cons (ps_set (i := 8) sc__law_is_mixture.nd rfl (Or.inl rfl) (pe_bin (os_add hr tk) (pe_bin (os_mul hr tk) (pe_var (i := 8) rfl (Or.inl rfl) nd_top.1 nd_top.2) (pe_ix ix_seq (pe_ix ix_seq (pe_var (i := 4) rfl (Or.inl rfl) nd_pairs.1 nd_pairs.2) (pe_var (i := 6) rfl (Or.inl rfl) nd_k.1 nd_k.2) (fun _ _ => rfl)) pe_int (fun _ _ => rfl))) (pe_bin (os_mul hr tk) (pe_var (i := 10) rfl (Or.inl rfl) nd_cell.1 nd_cell.2) (pe_var (i := 9) rfl (Or.inl rfl) nd_bottom.1 nd_bottom.2)))) (pss_one (ps_set (i := 9) sc__law_is_mixture.nd rfl (Or.inl rfl) (pe_bin (os_mul hr tk) (pe_var (i := 9) rfl (Or.inl rfl) nd_bottom.1 nd_bottom.2) (pe_ix ix_seq (pe_ix ix_seq (pe_var (i := 4) rfl (Or.inl rfl) nd_pairs.1 nd_pairs.2) (pe_var (i := 6) rfl (Or.inl rfl) nd_k.1 nd_k.2) (fun _ _ => rfl)) pe_int (fun _ _ => rfl)))))))) (pss_one (ps_if (pt_cm (os_neF hr tk) (pe_var (i := 8) rfl (Or.inl rfl) nd_top.1 nd_top.2) (pe_bin (os_mul hr tk) (pe_ix ix_seq (pe_ix ix_seq (pe_var (i := 1) rfl (Or.inl rfl) nd_columns.1 nd_columns.2) (pe_var (i := 3) rfl (Or.inl rfl) nd_at.1 nd_at.2) (fun _ _ => rfl)) (pe_var (i := 7) rfl (Or.inl rfl) nd_i.1 nd_i.2) (fun _ _ => rfl)) (pe_var (i := 9) rfl (Or.inl rfl) nd_bottom.1 nd_bottom.2)) (nomark _)) (pss_one (ps_ret pe_bl)) pss_nil)))))) (pss_one (ps_ret pe_bl))))))), ?_⟩)
  rintro ds m K E - ⟨h, w, n, a, C, P, X, sc, t, rfl, M, k⟩
  show Ws _ _ _ [some (.lst ((List.range n).map fun k => rq C_Ratio (X k))), some (lli (tabR w h C)), some (li ((List.range n).map fun k => (P k : Int))), some (.int (a : Nat)), none, none, none, none, none, none, none] _ _
  try dsimp only [cx_G, cx_K]
  have hh := M.hh
  have hw := M.hw
  have hn := M.hn
  have ha := M.ha
  walk_at "gn_2"
  refine ws_if ?_
  walk_at "gn_2"
  refine wc_isiT .lst (b := true) (kit_ty (by decide +kernel)) ?_
  walk_at "gn_2"
  · exact Nat.ble_eq_true_of_le (by rw [List.length_range]; omega)
  · rename_i k0 hk0 q0
    exact use_pair ((M.qb k0 (List.mem_range.mp hk0)).mono (by decide)) (LcL.mk (f := fun k => D.tup [.int (X k).num, .int ((X k).den : Int)]) rfl rfl)
  have ep : D.lst ((List.range n).map fun k => D.tup [.int (X k).num, .int ((X k).den : Int)]) = .lst (((List.range n).map fun k => ((X k).num, ((X k).den : Int))).map pairD) := by
    rw [List.map_map]
    rfl
  refine ws_if ?_
  walk_at "gn_2"
  rw [ep]
  refine w2_noneIn ?_
  rw [← ep]
  walk_at "gn_2"
  let prs : D := .lst ((List.range n).map fun k => D.tup [.int (X k).num, .int ((X k).den : Int)])
  let R0 : Option D → Option D → Option D → Option D → Option D → Rho := fun o6 o7 o8 o9 o10 => [some (.lst ((List.range n).map fun k => rq C_Ratio (X k))), some (lli (tabR w h C)), some (li ((List.range n).map fun k => (P k : Int))), some (.int (a : Nat)), some prs, none, o6, o7, o8, o9, o10]
  have hl : ((((((List.range n).map fun k => (P k : Int)).map D.int).length) : Nat) : Int) = (n : Int) := by simp
  have rn : ∀ {k : Nat}, k < n → (List.range n)[k]! = k := fun hk => by
    have := range_at' (f := fun k => k) hk
    rwa [List.map_id'] at this
  refine ws_range1 ?_
  walk_at "gn_2"
  rw [hl]
  refine ⟨_, fun i r' m' => m' = m ∧ ∃ o6, r' = R0 o6 none none none none, rfl, by omega, ⟨rfl, _, rfl⟩, ?_, ?_⟩
  · rintro i r' m' hi ⟨rfl, o6, rfl⟩
    have hi' : i < n := by omega
    refine ws_if ?_
    walk_at "gn_2"
    all_goals try (rw [List.length_range]; exact hi')
    all_goals try (rw [List.length_map, List.length_range]; exact hi')
    all_goals try exact ⟨_, rfl⟩
    rename_i h1 h2
    rw [rn hi'] at h2
    rw [range_at' hi'] at h1
    exact absurd (M.a i hi' (by omega)) h2
  · rintro r' m' ⟨rfl, o6, rfl⟩
    walk_at "gn_2"
    refine ws_range1 ?_
    walk_at "gn_2"
    all_goals try (show a < (tabR w h C).length; rw [tabR_len]; exact ha)
    rw [tabR_row ha, show (((((List.range h).map fun q => C a q).map D.int).length : Nat) : Int) = (h : Int) by simp]
    refine ⟨_, fun i r' m'_1 => m'_1 = m' ∧ ∃ o6 o7 o8 o9 o10, r' = R0 o6 o7 o8 o9 o10, rfl, by omega, ⟨rfl, _, _, _, _, _, rfl⟩, ?_, ?_⟩
    · rintro i r' m' hi ⟨rfl, o6, o7, o8, o9, o10, rfl⟩
      have hi' : i < h := by omega
      walk_at "gn_2"
      refine ws_range1 ?_
      walk_at "gn_2"
      rw [hl]
      refine ⟨_, fun k r' m'_1 => m'_1 = m' ∧ ∃ (top bottom : Int) (o6 o10 : Option D), r' = R0 o6 (some (.int (i : Nat))) (some (.int top)) (some (.int bottom)) o10 ∧ sc * top = bottom * sm k (fun l => t l * C (P l) i) ∧ Bd (700 * k + 41) top ∧ Bd (640 * k + 1) bottom, rfl, by omega, ⟨rfl, 0, 1, _, _, rfl, by simp [sm], bd_lit (by decide), bd_lit (by decide)⟩, ?_, ?_⟩
      · rintro q r' m' hk ⟨rfl, top, bottom, o6, o10, rfl, eq, b1, b2⟩
        have hk' : q < n := by omega
        have hP := M.lt q hk'
        have qb := M.qb q hk'
        have cb := M.cb (P q) i hP hi'
        walk_at "gn_2"
        all_goals try (rw [List.length_range]; exact hk')
        all_goals try (rw [List.length_map, List.length_range]; exact hk')
        rw [range_at' hk', rn hk']
        walk_at "gn_2"
        all_goals try (show P q < (tabR w h C).length; rw [tabR_len]; exact hP)
        all_goals try rw [tabR_row hP]
        all_goals try (rw [List.length_map, List.length_range]; exact hi')
        all_goals try first
          | (rw [List.length_range]; exact hk')
          | (rw [range_at' hi']; exact qb.t.mulX cb (by decide))
          | (rw [rn hk']; exact (show Bd 4241 top from b1.mono (by omega)).mulX qb.b (by decide))
          | (rw [range_at' hi']; exact (qb.t.mul cb).mulX (show Bd 3841 bottom from b2.mono (by omega)) (by decide))
          | (rw [rn hk']; exact (show Bd 3841 bottom from b2.mono (by omega)).mulX qb.b (by decide))
        rw [rn hk', range_at' hi']
        refine ⟨_, _, _, _, rfl, ?_, ?_, ?_⟩
        · have x := M.x q hk'
          rw [sm_succ]
          have e1 : sc * (top * ((X q).den : Int) + (X q).num * C (P q) i * bottom) = (sc * top) * ((X q).den : Int) + (sc * (X q).num) * C (P q) i * bottom := by grind
          rw [e1, eq, x]
          grind
        · exact (((b1.mul qb.b).mono (show _ ≤ 700 * q + 740 by omega)).add (((qb.t.mul cb).mul b2).mono (by omega))).mono (by omega)
        · exact (b2.mul qb.b).mono (by omega)
      · rintro r' m' ⟨rfl, top, bottom, o6, o10, rfl, eq, b1, b2⟩
        rw [Int.toNat_natCast] at eq b1 b2
        refine ws_if ?_
        walk_at "gn_2"
        all_goals try (show a < (tabR w h C).length; rw [tabR_len]; exact ha)
        all_goals try rw [tabR_row ha]
        all_goals try (rw [List.length_map, List.length_range]; exact hi')
        · rw [range_at' hi']
          exact (M.cb a i ha hi').mulX (show Bd 3841 bottom from b2.mono (by omega)) (by decide)
        · rename_i h1
          rw [tabR_row ha, range_at' hi'] at h1
          rw [← M.b i hi'] at eq
          refine absurd (Int.eq_of_mul_eq_mul_left M.s0 (eq.trans ?_)) h1
          ac_rfl
        · exact ⟨_, _, _, _, _, rfl⟩
    · rintro r' m' ⟨rfl, o6, o7, o8, o9, o10, rfl⟩
      walk_at "gn_2"
      exact k
end
end K10
set_option Elab.async false
set_option linter.all false
set_option maxRecDepth 100000
set_option maxHeartbeats 4000000
namespace K10
open PySem PySem.Spec L2 DL
open PyProof.Rows hiding St
/-! one step, by the goal's head -/

/-! comprehensions, sums, lists of others -/

def S_badp (C : Addr) : SpecD := fun ds m K _ => ∃ (h w : Nat) (R : List (List Int)) (o c : Int), ds = [gd C R o w, .int c] ∧ GaX h w R ∧ ¬ (0 ≤ c ∧ c < (w : Int)) ∧ K (.bl true) m
theorem use_badp {C : Addr} {h w : Nat} {R : List (List Int)} {o c : Int} {m : Mu} {K : KT} {E : Ex → Mu → Prop} (g : GaX h w R) (z : ¬ (0 ≤ c ∧ c < (w : Int))) (k : K (.bl true) m) : S_badp C [gd C R o w, .int c] m K E := ⟨h, w, R, o, c, rfl, g, z, k⟩
section
variable {G : Gx} {C_Ratio C_Grid C_BadShape C_BadPlace C_CarryError : Addr}
theorem use_mixtE {C CR Z : Addr} {h w : Nat} {R : List (List Int)} {o c : Int} {m : Mu} {K : KT} {E : Ex → Mu → Prop} (g : GaX h w R) (z : ¬ (0 ≤ c ∧ c < (w : Int))) (e : E ⟨Z, ["place"], [.int c]⟩ m) : S_mixt C CR Z [gd C R o w, .int c] m K E :=
  ⟨h, w, R, o, c, rfl, g, fun _ => e, fun j e1 e2 => absurd ⟨by omega, by omega⟩ z⟩
local macro_rules | `(tactic| walk_at "fld_1") => `(tactic| (with_reducible refine we_fldF ?_))
local macro_rules | `(tactic| walk_at "useWe_1") => `(tactic| first | (with_reducible refine we_xf (by assumption) (by assumption) ?_) | fail)
local macro_rules | `(tactic| walk_at "sWe_1") => `(tactic| first
  | ((with_reducible refine we_var (d := ?d) ?hv ?hk); case hv => rfl)
  | (with_reducible first
    | refine we_cint ?_ | refine we_2 ?_ | refine we_cl0 ?_ | refine we_tup ?_ | refine we_1 ?_ | refine we_c2 ?_ | refine we_cbl ?_ | refine we_cnon ?_ | refine we_cty ?_ | refine we_cref ?_
    | refine we_op ?_ | refine we_andV ?_ | refine we_orV ?_ | refine we_notV ?_ | refine we_3 ?_ | refine we_ifx ?_ | refine we_cstr ?_ | refine we_clH ?_)
  | walk_at "fld_1"
  | walk_at "useWe_1")
local macro_rules | `(tactic| walk_at "useW2_1") => `(tactic| first | (with_reducible refine w2_eqHFI ?_) | (with_reducible refine w2_neHFI ?_) | fail)
local macro_rules | `(tactic| walk_at "sW2_1") => `(tactic| first
  | (with_reducible first
    | refine w2_add ?_ | refine w2_sub ?_ | refine w2_mul ⟨?_, ?_⟩ | refine w2_fdiv ⟨?_, ?_⟩ | refine w2_mod ⟨?_, ?_⟩ | refine w2_pow ⟨?_, ?_⟩ | refine w2_eqI ?_ | refine w2_neI ?_ | refine w2_lt ?_ | refine w2_le ?_ | refine w2_gt ?_ | refine w2_ge ?_ | refine w2_eqFI ?_ | refine w2_neFI ?_)
  | ((with_reducible refine w2_ixT (d := ?d) ⟨?hv, ?hk⟩); case hv => rfl)
  | ((with_reducible refine w2_ixL (d := ?d) ⟨?hv, ?hk⟩); case hv => rfl)
  | ((with_reducible refine w2_ixM (d := ?d) .head ⟨?hv, ?hk⟩); case hv => rfl)
  | (with_reducible first
    | refine w2_eqIH ?_ | refine w2_neIH ?_ | refine w2_mulH ⟨?_, ?_⟩ | refine w2_addH ?_ | refine w2_subH ?_ | refine w2_isN ?_ | refine w2_notN ?_ | refine w2_isB ?_ | refine w2_notB ?_)
  | walk_at "useW2_1")
local macro_rules | `(tactic| walk_at "sWa_1") => `(tactic| with_reducible first | refine wa_nil ?_ | refine wa_cons ?_)
local macro_rules | `(tactic| walk_at "useWs_1") => `(tactic| first | (with_reducible refine ws_rs0 ?_) | (with_reducible refine ws_rs ?_) | fail)
local macro_rules | `(tactic| walk_at "sWs_1") => `(tactic| first
  | (with_reducible first | refine ws_seq ?_ | refine ws_ret ?_ | refine ws_asg ?_ | refine ws_next ?_ | refine ws_drop ?_ | refine ws_par ?_ | refine ws_par3 ?_ | refine ws_fldN ?_ | refine ws_brk ?_ | refine ws_cont ?_)
  | walk_at "useWs_1")
local macro_rules | `(tactic| walk_at "sWt_1") => `(tactic| with_reducible first | refine wt_test ?_ | refine wt_tr ?_ | refine wt_and ?_ | refine wt_or ?_ | refine wt_not ?_)
local macro_rules | `(tactic| walk_at "useWc_1") => `(tactic| first | (with_reducible refine wc_isEC (by assumption) (by assumption) ?_) | (with_reducible refine wc_isET (by assumption) (by assumption) ?_) | fail)
local macro_rules | `(tactic| walk_at "sWc_1") => `(tactic| first
  | (with_reducible first | refine wc_int ?_ | refine wc_abs ?_ | refine wc_min ?_ | refine wc_gcd ?_ | refine wc_isiT .int kit_ii ?_ | refine wc_isiT .int kit_ib ?_ | refine wc_len .lst ?_ | refine wc_len .tup ?_ | refine wc_strI ?_ ?_)
  | walk_at "useWc_1")
local macro_rules | `(tactic| walk_at "sWi_1") => `(tactic| with_reducible first | refine wi_seq ?_ | refine wi_rng1S ?_ | refine wi_rng2 ?_ | refine wi_zipM ?_)
local macro_rules | `(tactic| walk_at "sWg_1") => `(tactic| with_reducible first | refine wg_name ?_ | refine wg_subM ?_ | refine wg_tup rfl ?_)
local macro_rules | `(tactic| walk_at "sW1_1") => `(tactic| first | (with_reducible refine w1_neg ?_) | walk_at "useW2_1")
local macro_rules | `(tactic| walk_at "sWgs_1") => `(tactic| with_reducible first | refine wgs_cons ?_ | refine wgs_nil ?_)
local macro_rules | `(tactic| walk_at "sS_1") => `(tactic| first | (with_reducible refine SlA.mk ?_ ?_) | (with_reducible refine RngA.mk ?_ ?_) | (with_reducible refine LcS.mk ?_ (fun a ha q => ?_) ?_) | (with_reducible exact LcL.mk rfl rfl) | fail)
local macro_rules | `(tactic| walk_at "use_1") => `(tactic| first | (with_reducible refine use_whole ?_) | fail)
local macro_rules | `(tactic| walk_at "sX_1") => `(tactic| first
  | (with_reducible refine ⟨_, rfl, ?_⟩)
  | (with_reducible refine fld_top (by assumption) ?_) | (with_reducible refine fld_bottom (by assumption) ?_)
  | (with_reducible refine ⟨_, .bl, ?_⟩)
  | ((with_reducible refine ⟨?h, ?_⟩); case h => rfl)
  | (with_reducible refine ⟨_, _, rfl, ?_⟩)
  | (with_reducible refine ⟨_, _, _, rfl, ?_⟩)
  | walk_at "use_1"
  | (with_reducible refine setN_top (by assumption) ?_) | (with_reducible refine setN_bottom (by assumption) ?_)
  | ((with_reducible refine ⟨_, _, _, ?j, _, rfl, rfl, .head, ?h, .head, ?_⟩); case h => rfl)
  | fail)
local macro_rules | `(tactic| walk_at "st_1") => `(tactic| first
  | ((with_reducible show We _ _ _ _ _ _); walk_at "sWe_1")
  | ((with_reducible show W2 _ _ _ _ _ _ _ _); walk_at "sW2_1")
  | ((with_reducible show Wa _ _ _ _ _ _); walk_at "sWa_1")
  | ((with_reducible show Ws _ _ _ _ _ _); walk_at "sWs_1")
  | ((with_reducible show Wt _ _ _ _ _ _); walk_at "sWt_1")
  | ((with_reducible show Wc _ _ _ _ _ _ _); walk_at "sWc_1")
  | ((with_reducible show Wi _ _ _ _ _ _); walk_at "sWi_1")
  | ((with_reducible show Wg _ _ _ _ _ _ _); walk_at "sWg_1")
  | ((with_reducible show W1 _ _ _ _ _ _ _); walk_at "sW1_1")
  | ((with_reducible show Wgs _ _ _ _ _ _ _); walk_at "sWgs_1")
  | walk_at "sS_1" | walk_at "sX_1" | fail)
local macro_rules | `(tactic| walk_at "wif_1") => `(tactic| (with_reducible refine ws_if ?_))
local macro_rules | `(tactic| walk_at "br_1") => `(tactic| ((with_reducible refine ⟨fun hb => ?_, fun hb => ?_⟩) <;> (try simp only [decide_eq_true_eq, decide_eq_false_iff_not, Bool.not_eq_true', Bool.not_eq_false', Bool.and_eq_true, Bool.or_eq_true, reduceCtorEq, List.length_map, Bool.not_true, Bool.not_false, DL.isNon, not_true_eq_false, not_false_eq_true, Classical.not_not, List.all_cons, List.all_nil, id_eq, Bool.and_self, Bool.true_and, decide_true, decide_false] at hb)))
local macro_rules | `(tactic| walk_at "go_1") => `(tactic| repeat' (first | walk_at "st_1" | walk_at "wif_1" | walk_at "br_1" | fail))
theorem ok_badp (T : Txt G C_Ratio C_Grid C_BadShape C_BadPlace C_CarryError) (c_mixture : Cal G 3 "mixture" 2 (S_mixt C_Grid C_Ratio C_BadPlace) []) (h__law_whole : CalH G 1 "_law_whole" 1 S_whole) {f : Addr} {fd : FuncData} (F : L2.Fun G.K "_law_bad_place" "_law_bad_place" s__law_bad_place f fd) (b : L2.Binds G.K fd ["a", "place"] []) : Fnx G 4 f 2 (S_badp C_Grid) [] := by
  refine fnx_of F sc__law_bad_place rfl b .nil rfl (fun cdv A outer s H FF hr tk => ⟨_, (pss_cons (ps_tryD (i := 2) rfl rfl sc__law_bad_place.nd rfl rfl ⟨rfl, nd_CarryError.1, .inl T.mg_CarryError⟩ tk (fun W1 pn1 xe1 tk1 po1 => (pss_one (ps_expr (pe_cl c_mixture hr (by decide) tk1 rfl (pa_cons (pe_var (i := 0) rfl (Or.inl rfl) nd_a.1 nd_a.2) (pa_cons (pe_var (i := 1) rfl (Or.inl rfl) nd_place.1 nd_place.2) pa_nil)))))) (fun a1 oe1 cls1 d1 pn1 hz hf => (pss_cons (ps_if (PW.pt (pw_or (pt_not (pt_trS (pe_isE hz hf T.n_isinstance (pa_cons (pe_var (i := 2) rfl (Or.inl rfl) nd_e.1 nd_e.2) (pa_cons (pe_glob (v := .ref C_BadPlace) (by rfl) T.mg_BadPlace rfl) pa_nil))))) (pw_or (pt_not (pt_trS (pe_isE hz hf T.n_isinstance (pa_cons (pe_var (i := 2) rfl (Or.inl rfl) nd_e.1 nd_e.2) (pa_cons (pe_bltn (v := .ty "ValueError") (by rfl) T.n_ValueError bt_ValueError rfl) pa_nil))))) (pw_or1 (pt_trS (pe_isE hz hf T.n_isinstance (pa_cons (pe_var (i := 2) rfl (Or.inl rfl) nd_e.1 nd_e.2) (pa_cons (pe_glob (v := .ref C_BadShape) (by rfl) T.mg_BadShape rfl) pa_nil)))))))) (pss_one (ps_ret pe_bl)) pss_nil) (pss_one (ps_ret (pe_and (pe_clH h__law_whole (rH hr) (by decide) ⟨(a1, oe1), ⟨rfl, hotc hz hf⟩, List.mem_cons_self⟩ takes0N rfl (pa_cons (pe_xfD hz hf (pe_var (i := 2) rfl (Or.inl rfl) nd_e.1 nd_e.2)) pa_nil)) (pe_one (pe_cm (o := oEqHF G) (os_eqHF (rH hr)) (pe_xfD hz hf (pe_var (i := 2) rfl (Or.inl rfl) nd_e.1 nd_e.2)) (pe_var (i := 1) rfl (Or.inl rfl) nd_place.1 nd_place.2) (nomark _))))))))) (pss_one (ps_ret pe_bl))), ?_⟩)
  rintro ds m K E - ⟨h, w, R, o, c, rfl, g, z, k⟩
  show Ws _ _ _ [some (gd C_Grid R o w), some (.int c), none] _ _
  try dsimp only [cx_G, cx_K]
  have X1 := T.XC_BadPlace
  have x2 := X1.xf
  have i4 := T.is_BadPlace_BadPlace
  have i5 := T.is_BadPlace_BadShape
  have i6 := T.isT_BadPlace_ValueError
  have n2 := T.no_BadPlace_place
  refine ws_seq (ws_try fun W' => ?_)
  walk_at "go_1"
  refine use_mixtE g z ?_
  refine ⟨true, T.ex_BadPlace_CarryError, fun _ a dd => ?_, fun z => nomatch z⟩
  walk_at "go_1"
  all_goals refine ⟨_, _, _, rfl, fix_hd, ?_⟩
  all_goals walk_at "go_1"
  all_goals refine ⟨_, _, _, rfl, fix_hd, ?_⟩
  all_goals walk_at "go_1"
  all_goals (rw [decide_eq_true rfl]; exact k)
end
end K10
set_option Elab.async false
set_option linter.all false
set_option maxRecDepth 100000
/-! ML: every column by the pivots' columns. -/
namespace DL
open PySem PySem.Spec L2
open PyProof.Rows hiding St
theorem sm_cut {f : Nat → Int} {k' : Nat} : ∀ {k : Nat}, k' ≤ k → (sm k fun j => if j < k' then f j else 0) = sm k' f
  | 0, h => by
    obtain rfl : k' = 0 := by omega
    rfl
  | k + 1, h => by
    by_cases e : k' = k + 1
    · subst e
      exact sm_congr fun j hj => if_pos hj
    · rw [sm_succ, sm_cut (by omega), if_neg (by omega), Int.add_zero]
theorem Piv.made {h w k k' c : Nat} {A B T : Nat → Nat → Int} {P : Nat → Nat} {s s' : Int} {u : Nat → Int} (H : Piv h B T s P k w) (pb : Prm h B A) (pr : Prm h A B) (hc : c < w) (hk : k' ≤ k) (hs : s' ≠ 0) (hu : ∀ i, i < h → s' * A i c = sm k' fun j => u j * A i (P j)) :
    (∀ j, k' ≤ j → j < k → T j c = 0) ∧ ∀ i, i < h → s * A i c = sm k fun j => T j c * A i (P j) := by
  have hd : dtF k (fun j i => B i (P j)) ≠ 0 := by
    rw [← H.sd]
    exact H.s0
  have huB : ∀ i, i < h → s' * B i c = sm k fun j => (if j < k' then u j else 0) * B i (P j) := fun i hi => by
    obtain ⟨i', h1, h2⟩ := pb i hi
    rw [h2 c, hu i' h1, ← sm_cut (f := fun j => u j * A i' (P j)) hk]
    exact sm_congr fun j _ => by
      rw [h2]
      split
      · rfl
      · rw [Int.zero_mul]
  have key : ∀ i, i < h → sm k (fun j => (s' * T j c - s * (if j < k' then u j else 0)) * B i (P j)) + s' * (if k ≤ i then T i c else 0) = 0 := fun i hi => by
    have r := H.rel i c hi hc
    have e := huB i hi
    have e1 : sm k (fun j => (s' * T j c - s * (if j < k' then u j else 0)) * B i (P j)) = s' * sm k (fun j => T j c * B i (P j)) + (-s) * sm k (fun j => (if j < k' then u j else 0) * B i (P j)) := by
      rw [← sm_mul, ← sm_mul, ← sm_add]
      exact sm_congr fun j _ => by grind
    rw [e1, ← e]
    have r2 : s' * (s * B i c) = s' * (sm k (fun j => T j c * B i (P j)) + if k ≤ i then T i c else 0) := by rw [r]
    generalize sm k (fun j => T j c * B i (P j)) = S at *
    generalize (if k ≤ i then T i c else 0) = Z at *
    grind
  have v0 : ∀ j, j < k → s' * T j c - s * (if j < k' then u j else 0) = 0 := fun j hj => dtF_ker (u := fun j => s' * T j c - s * (if j < k' then u j else 0)) hd (fun i hi => by
    have q := key i (by have := H.kh; omega)
    rw [if_neg (show ¬ k ≤ i by omega), Int.mul_zero, Int.add_zero] at q
    exact q) j hj
  refine ⟨fun j h1 h2 => ?_, fun i hi => ?_⟩
  · have q := v0 j h2
    rw [if_neg (by omega), Int.mul_zero, Int.sub_zero] at q
    rcases Int.mul_eq_zero.mp q with z | z
    · exact absurd z hs
    · exact z
  · obtain ⟨i', h1, h2⟩ := pr i hi
    have z : (if k ≤ i' then T i' c else 0) = 0 := by
      have q := key i' h1
      have e0 : sm k (fun j => (s' * T j c - s * (if j < k' then u j else 0)) * B i' (P j)) = 0 := by
        have e1 : sm k (fun j => (s' * T j c - s * (if j < k' then u j else 0)) * B i' (P j)) = sm k fun j => 0 * B i' (P j) := sm_congr fun j hj => by rw [v0 j hj]
        rw [e1, sm_mul, Int.zero_mul]
      rw [e0, Int.zero_add] at q
      rcases Int.mul_eq_zero.mp q with y | y
      · exact absurd y hs
      · exact y
    have r := H.rel i' c h1 hc
    rw [z, Int.add_zero] at r
    rw [h2 c, r]
    exact sm_congr fun j _ => by rw [h2]
/-- every column by the pivots' columns, nought at those behind it -/
theorem Red.mixt {h w k c : Nat} {A T : Nat → Nat → Int} {P : Nat → Nat} {s : Int} (R : Red h w w A P k T s) (hc : c < w) : (∀ j, j < k → c < P j → T j c = 0) ∧ ∀ i, i < h → s * A i c = sm k fun j => T j c * A i (P j) := by
  obtain ⟨B, H, pr, pb, _⟩ := R.ex
  by_cases e : ∃ m, m < k ∧ P m = c
  · obtain ⟨m, hm, rfl⟩ := e
    have q := H.made (s' := 1) (u := dlt m) (k' := m + 1) pb pr hc (by omega) (by decide) fun i _ => by
      rw [sm_dlt (f := fun j => A i (P j)), if_pos (by omega), Int.one_mul]
    refine ⟨fun j hj hl => q.1 j ?_ hj, q.2⟩
    refine Nat.lt_of_not_le fun y => ?_
    rcases Nat.lt_or_eq_of_le y with y | y
    · have := R.mono j m y hm
      omega
    · subst y
      omega
  · obtain ⟨k', h1, h2, s', u, s0, hu⟩ := R.dep c hc fun j hj y => e ⟨j, hj, y⟩
    have q := H.made pb pr hc h1 s0 hu
    refine ⟨fun j hj hl => q.1 j ?_ hj, q.2⟩
    refine Nat.le_of_not_lt fun y => ?_
    have := h2 j y
    omega
end DL
set_option Elab.async false
set_option linter.all false
set_option maxRecDepth 100000
set_option maxHeartbeats 4000000
namespace K10
open PySem PySem.Spec L2 DL
open PyProof.Rows hiding St
theorem preC_scale {h w c : Nat} {A C : Nat → Nat → Int} {g : Int} (hg : g ≠ 0) (e : ∀ i j, i < h → j < w → g * A i j = C j i) (hc : c < w) : PreC h A c ↔ InQ h (VsS c C) (C c) := by
  constructor
  · intro q
    have q2 : InQ h (VsS c C) fun i => A i c := InQ.trans (fun y hy => by
      obtain ⟨j, hj, rfl⟩ := hy
      exact InQ.div hg (InQ.congr (InQ.mem ⟨j, hj, rfl⟩) fun i hi => (e i j hi (by omega)).symm)) q
    exact (q2.smul g).congr fun i hi => e i c hi hc
  · intro q
    have q2 : InQ h (fun y => ∃ j, j < c ∧ y = fun i => A i j) (C c) := InQ.trans (fun y hy => by
      obtain ⟨j, hj, rfl⟩ := hy
      exact (InQ.smul g (InQ.mem ⟨j, hj, rfl⟩)).congr fun i hi => e i j hi (by omega)) q
    exact InQ.div hg (q2.congr fun i hi => (e i c hi hc).symm)
theorem same_places {h w k n : Nat} {A C T : Nat → Nat → Int} {P P' pos : Nat → Nat} {v : Nat → Nat → Int} {s g : Int} (hg : g ≠ 0) (e : ∀ i j, i < h → j < w → g * A i j = C j i) (R : Rdc h w w A P k T s) (K : Kp h C w n pos P' v) : k = n ∧ ∀ j, j < k → P j = P' j := by
  have a := asc_same R.mono K.mono fun c => by
    by_cases hc : c < w
    · rw [R.iff hc, K.dep c hc, preC_scale hg e hc]
    · constructor
      · rintro ⟨j, hj, rfl⟩
        exact absurd (R.lt j hj) hc
      · rintro ⟨j, hj, rfl⟩
        exact absurd (K.lt j hj) hc
  refine ⟨?_, fun j hj => (a j).2 hj⟩
  have h1 := (a n).1
  have h2 := (a k).1
  omega
theorem same_list {k n : Nat} {P P' : Nat → Nat} (h : k = n ∧ ∀ j, j < k → P j = P' j) : ((List.range k).map fun j => (P j : Int)) = (List.range n).map fun j => (P' j : Int) := by
  obtain ⟨rfl, h⟩ := h
  exact List.map_congr_left fun j hj => by rw [h j (List.mem_range.mp hj)]
theorem dv_pair0 {t b : Int} (h : b ≠ 0) : b * (dv t b).num = t * ((dv t b).den : Int) := by
  have e := dv_self (dv t b)
  have q := (Rat.divInt_eq_divInt_iff (den_ne (dv t b)) h).mp e
  rw [Int.mul_comm]
  exact q
theorem mx_of {h w k n a : Nat} {A C T : Nat → Nat → Int} {P P' : Nat → Nat} {s g : Int} (hh : h ≤ 5) (hw : w ≤ 6) (ha : a < w) (hg : g ≠ 0) (e : ∀ i j, i < h → j < w → g * A i j = C j i) (sz : ∀ i q, i < h → q < w → Bd 40 (A i q)) (cb : ∀ j i, j < w → i < h → Bd 40 (C j i))
    (R : Red h w w A P k T s) (sp : k = n ∧ ∀ j, j < k → P j = P' j) : MxA h w n a C P' (fun i => dv (T i a) s) s fun i => T i a := by
  obtain ⟨rfl, sp⟩ := sp
  obtain ⟨kh, s0, sb, tb⟩ := R.sz (Nat.le_refl w) (by omega) sz
  obtain ⟨m1, m2⟩ := R.mixt ha
  have kk : k * (40 + 66) ≤ 5 * 106 := Nat.mul_le_mul (by omega) (by decide)
  have kk1 : (k + 1) * (40 + 66) ≤ 6 * 106 := Nat.mul_le_mul (by omega) (by decide)
  refine ⟨hh, hw, by omega, ha, fun j hj => by rw [← sp j hj]; exact R.lt j hj, fun j hj => qb_of s0 ((tb j a (by omega) ha).mono (by omega)) (sb.mono (by omega)), cb, s0, fun j hj => dv_pair0 s0, fun j hj hl => ?_, fun i hi => ?_⟩
  · have z := m1 j hj (by rw [sp j hj]; exact hl)
    have q := dv_pair0 (t := T j a) s0
    rw [z, Int.zero_mul] at q
    show (dv (T j a) s).num = 0
    rw [z]
    rcases Int.mul_eq_zero.mp q with y | y
    · exact absurd y s0
    · exact y
  · rw [← e i a hi ha]
    have q := m2 i hi
    have e1 : s * (g * A i a) = g * (s * A i a) := by ac_rfl
    rw [e1, q, ← sm_mul]
    exact sm_congr fun j hj => by
      rw [← sp j hj, ← e i (P j) hi (R.lt j hj)]
      ac_rfl
end K10
set_option Elab.async false
set_option linter.all false
set_option maxRecDepth 100000
/-! DL28: == of a grid's fields, kept. -/
namespace DL
open PySem PySem.Spec L2
open PyProof.Rows hiding St
def pdT (rows : List (List Int)) : List PyData := rows.map fun r => .tuple (r.map PyData.int)
theorem pds_tups : ∀ rows : List (List Int), PDs (rows.map tup) (pdT rows)
  | [] => .nil
  | r :: rows => .cons (pd_tup r) (pds_tups rows)
theorem lay_tups : ∀ xs : List (List Int), PyData.canLayAll0 (pdT xs) = true
  | [] => by simp [pdT, PyData.canLayAll0]
  | x :: xs => by
    have ih := lay_tups xs
    unfold pdT at *
    simp [PyData.canLayAll0, PyData.canLay0, ih, lay_ints x]
theorem dep_tups : ∀ xs : List (List Int), PyData.depthAll (pdT xs) ≤ 3
  | [] => by simp [pdT, PyData.depthAll]
  | x :: xs => by
    have h := dep_tups xs
    have h2 := dep_ints x
    unfold pdT at *
    simp [PyData.depthAll, PyData.depth]
    omega
def pdK (R : List (List Int)) (o h w : Int) : PyData := .tuple [.tuple (pdT R), .int o, .int h, .int w]
theorem pd_kept {R : List (List Int)} {o h w : Int} : PD (.tup [tti R, .int o, .int h, .int w]) (pdK R o h w) :=
  .tup (.cons (.tup (pds_tups R)) (.cons (.int o) (.cons (.int h) (.cons (.int w) .nil))))
theorem sh_kept {R : List (List Int)} {o h w : Int} : PySem.SeqAt.shaped (pdK R o h w) = true := by
  have := dep_tups R
  simp [pdK, PySem.SeqAt.shaped, PyData.canLay0, PyData.canLayAll0, lay_tups R, PyData.depth, PyData.depthAll]
  omega
section
variable {W : WX} {E : ET} {r : Rho} {m : Mu} {K : KT} {G : Gx} {j : Nat}
theorem w2_eqKept {R : List (List Int)} {o h w : Int} (k : K (.bl true) m) : W2 W E (oEqF G j W) (.tup [tti R, .int o, .int h, .int w]) (.tup [tti R, .int o, .int h, .int w]) r m K := w2_eqFs pd_kept sh_kept k
end
end DL
set_option Elab.async false
set_option linter.all false
set_option maxRecDepth 100000
set_option maxHeartbeats 4000000
namespace K10
open PySem PySem.Spec L2 DL
open PyProof.Rows hiding St
/-! one step, by the goal's head -/

/-! comprehensions, sums, lists of others -/

theorem bd_div {b : Nat} {x g : Int} (h : Bd b x) (hg : 0 < g) : Bd b (x / g) := by
  unfold Bd at *
  refine Nat.lt_of_le_of_lt ?_ h
  by_cases hx : 0 ≤ x
  · have h1 := Int.ediv_nonneg hx (Int.le_of_lt hg)
    have h2 : x / g ≤ x := Int.ediv_le_self _ hx
    omega
  · have h1 : x / g * g ≤ x := Int.ediv_mul_le _ (by omega)
    have h2 : x ≤ x / g := by
      refine (Int.le_ediv_iff_mul_le hg).mpr ?_
      have : x * g ≤ x * 1 := Int.mul_le_mul_of_nonpos_left (by omega) (by omega)
      omega
    have h3 : x / g < 0 := Int.ediv_neg_of_neg_of_pos (by omega) hg
    omega
theorem flat_red {rows : List (List Int)} {g : Nat} : (redR rows g).flatten = rows.flatten.map fun x => x / (g : Int) := by
  unfold redR
  rw [List.map_flatten]
theorem gcv_red {rows : List (List Int)} {over : Int} (op : 0 < over) : gcv (redR rows (gcv rows over)) (over / (gcv rows over : Int)) = 1 := by
  have gp := gcv_pos (rows := rows) op
  have e1 : (over / (gcv rows over : Int)).natAbs = over.natAbs / gcv rows over := natAbs_div gp gcv_dvd.1
  have e2 : gcv (redR rows (gcv rows over)) (over / (gcv rows over : Int)) = gA (over.natAbs / gcv rows over) (rows.flatten.map fun x => x / (gcv rows over : Int)) := by
    rw [← e1, ← flat_red]
    rfl
  rw [e2]
  exact gA_red (by omega)
theorem rc_red {h w g : Nat} {rows : List (List Int)} (rc : Rc h w rows) : Rc h w (redR rows g) := ⟨by rw [redR_len, rc.len], fun r hr => by
  obtain ⟨a, ha, rfl⟩ := List.mem_map.mp hr
  rw [List.length_map]
  exact rc.wid a ha⟩
theorem sz_red {b : Nat} {rows : List (List Int)} {over : Int} (op : 0 < over) (s : SzT b rows) : SzT b (redR rows (gcv rows over)) := fun r hr z hz => by
  have gp := gcv_pos (rows := rows) op
  obtain ⟨a, ha, rfl⟩ := List.mem_map.mp hr
  obtain ⟨y, hy, rfl⟩ := List.mem_map.mp hz
  exact bd_div (s a ha y hy) (by omega)
theorem rc_ce {h w i q : Nat} {rows : List (List Int)} {over : Int} (rc : Rc h w rows) (hi : i < h) (hq : q < w) : (gcv rows over : Int) * ce (redR rows (gcv rows over)) i q = ce rows i q := by
  have e : ce (redR rows (gcv rows over)) i q = ((rows[i]!).map fun x => x / (gcv rows over : Int))[q]! := ce_map (by rw [rc.len]; exact hi)
  rw [e, map_at (by rw [rc.row hi]; exact hq)]
  exact Int.mul_ediv_cancel' (gcv_dvd.2 _ (mem_at (by rw [rc.len]; exact hi)) _ (mem_at (by rw [rc.row hi]; exact hq)))
theorem six {x : Int} (h0 : 0 ≤ x) (h1 : x < 6) : ∃ n : Nat, atI [D.int 3, D.int 2, D.int 4, D.int 1, D.int 5, D.int 0] x = some (.int (n : Nat)) ∧ n ≤ 5 := by
  have hx : x = 0 ∨ x = 1 ∨ x = 2 ∨ x = 3 ∨ x = 4 ∨ x = 5 := by omega
  rcases hx with rfl | rfl | rfl | rfl | rfl | rfl
  · exact ⟨3, rfl, by decide⟩
  · exact ⟨2, rfl, by decide⟩
  · exact ⟨4, rfl, by decide⟩
  · exact ⟨1, rfl, by decide⟩
  · exact ⟨5, rfl, by decide⟩
  · exact ⟨0, rfl, by decide⟩
theorem seven {x : Int} (h0 : 0 ≤ x) (h1 : x < 7) : ∃ n : Nat, atI [D.int 4, D.int 3, D.int 5, D.int 2, D.int 6, D.int 1, D.int 0] x = some (.int (n : Nat)) ∧ n ≤ 6 := by
  have hx : x = 0 ∨ x = 1 ∨ x = 2 ∨ x = 3 ∨ x = 4 ∨ x = 5 ∨ x = 6 := by omega
  rcases hx with rfl | rfl | rfl | rfl | rfl | rfl | rfl
  · exact ⟨4, rfl, by decide⟩
  · exact ⟨3, rfl, by decide⟩
  · exact ⟨5, rfl, by decide⟩
  · exact ⟨2, rfl, by decide⟩
  · exact ⟨6, rfl, by decide⟩
  · exact ⟨1, rfl, by decide⟩
  · exact ⟨0, rfl, by decide⟩
section
variable {G : Gx} {C_Ratio C_Grid C_BadShape C_BadPlace C_CarryError : Addr}
local macro_rules | `(tactic| walk_at "fld_1") => `(tactic| (with_reducible refine we_fldF ?_))
local macro_rules | `(tactic| walk_at "useWe_1") => `(tactic| first | (with_reducible refine we_grd ?_) | (with_reducible refine we_lst ?_) | (with_reducible refine we_app ?_) | (with_reducible refine we_ratQ1 ?_) | fail)
local macro_rules | `(tactic| walk_at "sWe_1") => `(tactic| first
  | ((with_reducible refine we_var (d := ?d) ?hv ?hk); case hv => rfl)
  | (with_reducible first
    | refine we_cint ?_ | refine we_2 ?_ | refine we_cl0 ?_ | refine we_tup ?_ | refine we_1 ?_ | refine we_c2 ?_ | refine we_cbl ?_ | refine we_cnon ?_ | refine we_cty ?_ | refine we_cref ?_
    | refine we_op ?_ | refine we_andV ?_ | refine we_orV ?_ | refine we_notV ?_ | refine we_3 ?_ | refine we_ifx ?_ | refine we_cstr ?_ | refine we_clH ?_)
  | walk_at "fld_1"
  | walk_at "useWe_1")
local macro_rules | `(tactic| walk_at "useW2_1") => `(tactic| first
  | (with_reducible refine w2_eqRN ?_) | (with_reducible refine w2_eqLN ?_) | (with_reducible refine w2_eqLli ?_) | (with_reducible refine w2_eqLi ?_)
  | (with_reducible refine w2_ixT ⟨ix_map0 ?_, ?_⟩) | (with_reducible refine w2_ixL ⟨ix_map0 ?_, ?_⟩) | (with_reducible refine w2_ixT ⟨ix_map ?_, ?_⟩) | (with_reducible refine w2_ixL ⟨ix_map ?_, ?_⟩)
  | (with_reducible refine w2_addO (by assumption) (by decide) .fixed .fixed ?_) | (with_reducible refine w2_subO (by assumption) (by decide) .fixed .fixed ?_) | (with_reducible refine w2_mulO (by assumption) (by decide) .fixed .fixed ?_) | (with_reducible refine w1_negO (by assumption) (by decide) .fixed ?_)
  | (with_reducible refine w2_catL .lst .lst ?_ ?_) | fail)
local macro_rules | `(tactic| walk_at "sW2_1") => `(tactic| first
  | (with_reducible first
    | refine w2_add ?_ | refine w2_sub ?_ | refine w2_mul ⟨?_, ?_⟩ | refine w2_fdiv ⟨?_, ?_⟩ | refine w2_mod ⟨?_, ?_⟩ | refine w2_pow ⟨?_, ?_⟩ | refine w2_eqI ?_ | refine w2_neI ?_ | refine w2_lt ?_ | refine w2_le ?_ | refine w2_gt ?_ | refine w2_ge ?_ | refine w2_eqFI ?_ | refine w2_neFI ?_)
  | ((with_reducible refine w2_ixT (d := ?d) ⟨?hv, ?hk⟩); case hv => rfl)
  | ((with_reducible refine w2_ixL (d := ?d) ⟨?hv, ?hk⟩); case hv => rfl)
  | ((with_reducible refine w2_ixM (d := ?d) .head ⟨?hv, ?hk⟩); case hv => rfl)
  | (with_reducible first
    | refine w2_eqIH ?_ | refine w2_neIH ?_ | refine w2_mulH ⟨?_, ?_⟩ | refine w2_addH ?_ | refine w2_subH ?_ | refine w2_isN ?_ | refine w2_notN ?_ | refine w2_isB ?_ | refine w2_notB ?_)
  | walk_at "useW2_1")
local macro_rules | `(tactic| walk_at "sWa_1") => `(tactic| with_reducible first | refine wa_nil ?_ | refine wa_cons ?_)
local macro_rules | `(tactic| walk_at "useWs_1") => `(tactic| first | (with_reducible refine ws_rs0 ?_) | (with_reducible refine ws_rs ?_) | fail)
local macro_rules | `(tactic| walk_at "sWs_1") => `(tactic| first
  | (with_reducible first | refine ws_seq ?_ | refine ws_ret ?_ | refine ws_asg ?_ | refine ws_next ?_ | refine ws_drop ?_ | refine ws_par ?_ | refine ws_par3 ?_ | refine ws_fldN ?_ | refine ws_brk ?_ | refine ws_cont ?_)
  | walk_at "useWs_1")
local macro_rules | `(tactic| walk_at "sWt_1") => `(tactic| with_reducible first | refine wt_test ?_ | refine wt_tr ?_ | refine wt_and ?_ | refine wt_or ?_ | refine wt_not ?_)
local macro_rules | `(tactic| walk_at "useWc_1") => `(tactic| first
  | (with_reducible refine wc_len (SeqM.len (by assumption)) ?_) | (with_reducible refine wc_sumG ?_) | (with_reducible refine wc_sumI ?_) | (with_reducible refine wc_tupleL .tup ?_) | (with_reducible refine wc_tupleL .lst ?_) | (with_reducible refine wc_listF .tup ?_) | (with_reducible refine wc_listF .lst ?_) | fail)
local macro_rules | `(tactic| walk_at "sWc_1") => `(tactic| first
  | (with_reducible first | refine wc_int ?_ | refine wc_abs ?_ | refine wc_min ?_ | refine wc_gcd ?_ | refine wc_isiT .int kit_ii ?_ | refine wc_isiT .int kit_ib ?_ | refine wc_len .lst ?_ | refine wc_len .tup ?_ | refine wc_strI ?_ ?_)
  | walk_at "useWc_1")
local macro_rules | `(tactic| walk_at "sWi_1") => `(tactic| with_reducible first | refine wi_seq ?_ | refine wi_rng1S ?_ | refine wi_rng2 ?_ | refine wi_zipM ?_)
local macro_rules | `(tactic| walk_at "sWg_1") => `(tactic| with_reducible first | refine wg_name ?_ | refine wg_subM ?_ | refine wg_tup rfl ?_)
local macro_rules | `(tactic| walk_at "sW1_1") => `(tactic| first | (with_reducible refine w1_neg ?_) | walk_at "useW2_1")
local macro_rules | `(tactic| walk_at "sWgs_1") => `(tactic| with_reducible first | refine wgs_cons ?_ | refine wgs_nil ?_)
local macro_rules | `(tactic| walk_at "sS_1") => `(tactic| first | (with_reducible refine SlA.mk ?_ ?_) | (with_reducible refine RngA.mk ?_ ?_) | (with_reducible refine LcS.mk ?_ (fun a ha q => ?_) ?_) | (with_reducible exact LcL.mk rfl rfl) | fail)
local macro_rules | `(tactic| walk_at "sq_1") => `(tactic| first | assumption | exact SeqM.cons (by assumption) | exact SeqM.cons (SeqM.cons (by assumption)))
local macro_rules | `(tactic| walk_at "lst_1") => `(tactic| first
  | (with_reducible refine ⟨_, _, rfl, .head, ?_⟩) | (with_reducible refine ⟨_, _, _, rfl, .head, ?_, .head, ?_⟩) | (with_reducible refine ⟨_, _, .tup, ?_⟩) | (with_reducible refine ⟨_, _, .lst, ?_⟩) | (with_reducible refine ⟨_, _, (by walk_at "sq_1"), ?_⟩)
  | (with_reducible refine ⟨_, _, _, _, _, _, _, _, _, _, rfl, .tup, .tup, ?_⟩) | (with_reducible refine ⟨_, _, _, _, _, _, _, _, _, _, rfl, .tup, .lst, ?_⟩) | (with_reducible refine ⟨_, _, _, _, _, _, _, _, _, _, rfl, .tup, (by walk_at "sq_1"), ?_⟩) | (with_reducible refine ⟨_, _, _, _, _, _, _, _, _, _, rfl, .lst, .tup, ?_⟩) | (with_reducible refine ⟨_, _, _, _, _, _, _, _, _, _, rfl, .lst, .lst, ?_⟩) | (with_reducible refine ⟨_, _, _, _, _, _, _, _, _, _, rfl, .lst, (by walk_at "sq_1"), ?_⟩) | (with_reducible refine ⟨_, _, _, _, _, _, _, _, _, _, rfl, (by walk_at "sq_1"), .tup, ?_⟩) | (with_reducible refine ⟨_, _, _, _, _, _, _, _, _, _, rfl, (by walk_at "sq_1"), .lst, ?_⟩) | (with_reducible refine ⟨_, _, _, _, _, _, _, _, _, _, rfl, (by walk_at "sq_1"), (by walk_at "sq_1"), ?_⟩) | fail)
local macro_rules | `(tactic| walk_at "use_1") => `(tactic| first | walk_at "lst_1" | (with_reducible refine use_digit ?_ ?_ (by assumption) fun dg m' d0 d1 hpm => ?_) | (with_reducible refine fld_rows (by assumption) ?_) | (with_reducible refine fld_over (by assumption) ?_) | (with_reducible refine fld_height (by assumption) ?_) | (with_reducible refine fld_width (by assumption) ?_) | (with_reducible refine use_whole ?_) | fail)
local macro_rules | `(tactic| walk_at "sX_1") => `(tactic| first
  | (with_reducible refine ⟨_, rfl, ?_⟩)
  | (with_reducible refine fld_top (by assumption) ?_) | (with_reducible refine fld_bottom (by assumption) ?_)
  | (with_reducible refine ⟨_, .bl, ?_⟩)
  | ((with_reducible refine ⟨?h, ?_⟩); case h => rfl)
  | (with_reducible refine ⟨_, _, rfl, ?_⟩)
  | (with_reducible refine ⟨_, _, _, rfl, ?_⟩)
  | walk_at "use_1"
  | (with_reducible refine setN_top (by assumption) ?_) | (with_reducible refine setN_bottom (by assumption) ?_)
  | ((with_reducible refine ⟨_, _, _, ?j, _, rfl, rfl, .head, ?h, .head, ?_⟩); case h => rfl)
  | fail)
local macro_rules | `(tactic| walk_at "st_1") => `(tactic| first
  | ((with_reducible show We _ _ _ _ _ _); walk_at "sWe_1")
  | ((with_reducible show W2 _ _ _ _ _ _ _ _); walk_at "sW2_1")
  | ((with_reducible show Wa _ _ _ _ _ _); walk_at "sWa_1")
  | ((with_reducible show Ws _ _ _ _ _ _); walk_at "sWs_1")
  | ((with_reducible show Wt _ _ _ _ _ _); walk_at "sWt_1")
  | ((with_reducible show Wc _ _ _ _ _ _ _); walk_at "sWc_1")
  | ((with_reducible show Wi _ _ _ _ _ _); walk_at "sWi_1")
  | ((with_reducible show Wg _ _ _ _ _ _ _); walk_at "sWg_1")
  | ((with_reducible show W1 _ _ _ _ _ _ _); walk_at "sW1_1")
  | ((with_reducible show Wgs _ _ _ _ _ _ _); walk_at "sWgs_1")
  | walk_at "sS_1" | walk_at "sX_1" | fail)
local macro_rules | `(tactic| walk_at "br_1") => `(tactic| ((with_reducible refine ⟨fun hb => ?_, fun hb => ?_⟩) <;> (try simp only [decide_eq_true_eq, decide_eq_false_iff_not, Bool.not_eq_true', Bool.not_eq_false', Bool.and_eq_true, Bool.or_eq_true, reduceCtorEq, List.length_map, Bool.not_true, Bool.not_false, DL.isNon, not_true_eq_false, not_false_eq_true, Classical.not_not, List.all_cons, List.all_nil, id_eq, Bool.and_self, Bool.true_and, decide_true, decide_false] at hb)))
local macro_rules | `(tactic| walk_at "gn_1") => `(tactic| repeat' (first | walk_at "st_1" | walk_at "br_1" | fail))
theorem ok_law (T : Txt G C_Ratio C_Grid C_BadShape C_BadPlace C_CarryError) (k_Grid : Mak G 2 "Grid" C_Grid 3 (S_gmake C_Grid) []) (k1_Ratio : Mak G 1 "Ratio" C_Ratio 3 (S_init C_Ratio) [.int 1]) (c__law_start : Cal G 1 "_law_start" 1 (S_pot G.K) []) (c__law_digit : Cal G 1 "_law_digit" 2 S_digit []) (c__law_table : Cal G 3 "_law_table" 3 S_table []) (c__law_independent : Cal G 2 "_law_independent" 1 S_lind []) (c_independent_columns : Cal G 3 "independent_columns" 1 (S_icol C_Grid) []) (c_rank : Cal G 4 "rank" 1 (S_rank C_Grid) []) (c_mixture : Cal G 3 "mixture" 2 (S_mixt C_Grid C_Ratio C_BadPlace) []) (c__law_whole : Cal G 1 "_law_whole" 1 S_whole []) (c__law_is_list : Cal G 2 "_law_is_list" 2 S_islist []) (c__law_is_mixture : Cal G 3 "_law_is_mixture" 4 (S_ismix C_Ratio) []) (c__law_bad_place : Cal G 4 "_law_bad_place" 2 (S_badp C_Grid) []) {f : Addr} {fd : FuncData} (F : L2.Fun G.K "law" "law" s_law f fd) : FnOk G.P G.w G.K G.mg G.base (L2N.CX G.P G.w) 9 f fd ["script"] (spD 1 (S_law G.K)) := by
  refine fnok_of F sc_law rfl (fun cdv A outer s H FF hr tk => ⟨_, (pss_cons (ps_set (i := 1) sc_law.nd rfl (Or.inl rfl) (pe_cl c__law_start hr (by decide) tk rfl (pa_cons (pe_var (i := 0) rfl (Or.inl rfl) nd_script.1 nd_script.2) pa_nil))) (pss_cons (ps_set (i := 2) sc_law.nd rfl (Or.inl rfl) (pe_ix ix_seq (pe_lst (pa_cons pe_int (pa_cons pe_int (pa_cons pe_int (pa_cons pe_int (pa_cons pe_int (pa_cons pe_int pa_nil))))))) (pe_cl c__law_digit hr (by decide) tk rfl (pa_cons (pe_var (i := 1) rfl (Or.inl rfl) nd_pot.1 nd_pot.2) (pa_cons pe_int pa_nil))) (fun _ _ => rfl))) (pss_cons (ps_set (i := 3) sc_law.nd rfl (Or.inl rfl) (pe_ix ix_seq (pe_lst (pa_cons pe_int (pa_cons pe_int (pa_cons pe_int (pa_cons pe_int (pa_cons pe_int (pa_cons pe_int (pa_cons pe_int pa_nil)))))))) (pe_cl c__law_digit hr (by decide) tk rfl (pa_cons (pe_var (i := 1) rfl (Or.inl rfl) nd_pot.1 nd_pot.2) (pa_cons pe_int pa_nil))) (fun _ _ => rfl))) (pss_cons (ps_if (pt_cm (os_eqF hr tk) (pe_var (i := 2) rfl (Or.inl rfl) nd_height.1 nd_height.2) pe_int (nomark _)) (pss_one (ps_set (i := 3) sc_law.nd rfl (Or.inl rfl) pe_int)) pss_nil) (pss_cons (ps_set (i := 4) sc_law.nd rfl (Or.inr rfl) (pe_cl c__law_table hr (by decide) tk rfl (pa_cons (pe_var (i := 1) rfl (Or.inl rfl) nd_pot.1 nd_pot.2) (pa_cons (pe_var (i := 2) rfl (Or.inl rfl) nd_height.1 nd_height.2) (pa_cons (pe_var (i := 3) rfl (Or.inl rfl) nd_width.1 nd_width.2) pa_nil))))) (pss_cons (ps_set (i := 5) sc_law.nd rfl (Or.inl rfl) (pe_bin (os_sub hr tk) pe_int (pe_cl c__law_digit hr (by decide) tk rfl (pa_cons (pe_var (i := 1) rfl (Or.inl rfl) nd_pot.1 nd_pot.2) (pa_cons pe_int pa_nil))))) (pss_cons (ps_setLc (i := 6) (own := [("i", 8)]) (g := (gName 8)) (tt := tYes) rfl sc_law.nd rfl rfl (sw_true rfl rfl rfl (by decide +kernel)) (pi_range1 rfl T.n_range (pa_cons (pe_var (i := 2) rfl (Or.inl rfl) nd_height.1 nd_height.2) pa_nil)) (blkOk_by (N := N_law) (sc := (defScope s_law)) (by decide +kernel)) (fun _ _ _ _ _ => (pg_name (i := 8) sc_law.nd rfl (Or.inr rfl))) (fun _ _ _ _ _ => pts_nil) (fun _ _ _ _ _ => (pe_lc (own := [("column", 7)]) (g := (gName 7)) (tt := tYes) rfl sc_law.nd (pi_seqK (KK := G.K) (by rfl) (pe_var (i := 4) rfl (Or.inr (Or.inl rfl)) nd_columns.1 nd_columns.2)) (blkOk_by (N := N_law) (sc := (relS _ (defScope s_law))) (by decide +kernel)) (fun _ _ _ _ _ => (pg_name (i := 7) sc_law.nd rfl (Or.inl rfl))) (fun _ _ _ _ _ => pts_nil) (fun _ _ _ _ _ => (pe_ix (r := rIx G.K) ix_seq (pe_var (i := 7) rfl (Or.inl rfl) nd_column.1 nd_column.2) (pe_var (i := 8) rfl (Or.inr (Or.inl rfl)) nd_i.1 nd_i.2) (fun _ _ => rfl)))))) (pss_cons (ps_set (i := 9) sc_law.nd rfl (Or.inl rfl) (pe_cl c__law_independent hr (by decide) tk rfl (pa_cons (pe_var (i := 4) rfl (Or.inr (Or.inl rfl)) nd_columns.1 nd_columns.2) pa_nil))) (pss_cons (ps_set (i := 10) sc_law.nd rfl (Or.inl rfl) (pe_mak k_Grid hr (by decide) tk rfl (pa_cons (pe_var (i := 6) rfl (Or.inl rfl) nd_rows.1 nd_rows.2) (pa_cons (pe_var (i := 5) rfl (Or.inl rfl) nd_over.1 nd_over.2) pa_nil)))) (pss_cons (ps_set (i := 11) sc_law.nd rfl (Or.inl rfl) (pe_tup (pa_cons (pe_fld (pe_var (i := 10) rfl (Or.inl rfl) nd_a.1 nd_a.2) rfl) (pa_cons (pe_fld (pe_var (i := 10) rfl (Or.inl rfl) nd_a.1 nd_a.2) rfl) (pa_cons (pe_fld (pe_var (i := 10) rfl (Or.inl rfl) nd_a.1 nd_a.2) rfl) (pa_cons (pe_fld (pe_var (i := 10) rfl (Or.inl rfl) nd_a.1 nd_a.2) rfl) pa_nil)))))) (pss_cons (ps_set (i := 12) sc_law.nd rfl (Or.inl rfl) (pe_cl c_independent_columns hr (by decide) tk rfl (pa_cons (pe_var (i := 10) rfl (Or.inl rfl) nd_a.1 nd_a.2) pa_nil))) (pss_cons (ps_if (pt_not (pt_tr (pe_cl c__law_is_list hr (by decide) tk rfl (pa_cons (pe_var (i := 12) rfl (Or.inl rfl) nd_told.1 nd_told.2) (pa_cons (pe_var (i := 9) rfl (Or.inl rfl) nd_places.1 nd_places.2) pa_nil))))) (pss_one (ps_ret pe_bl)) pss_nil) (pss_cons (ps_expr (pe_bm PySem.F.plainAttrs_list PySem.F.slot_list_append PySem.F.type_list_append mt_append (pe_var (i := 12) rfl (Or.inl rfl) nd_told.1 nd_told.2) (pa_cons pe_int pa_nil))) (pss_cons (ps_set (i := 13) sc_law.nd rfl (Or.inl rfl) (pe_cl c_rank hr (by decide) tk rfl (pa_cons (pe_var (i := 10) rfl (Or.inl rfl) nd_a.1 nd_a.2) pa_nil))) (pss_cons (ps_if (PW.pt (pw_or (pt_not (pt_tr (pe_cl c__law_whole hr (by decide) tk rfl (pa_cons (pe_var (i := 13) rfl (Or.inl rfl) nd_many.1 nd_many.2) pa_nil)))) (pw_or1 (pt_cm (os_neF hr tk) (pe_var (i := 13) rfl (Or.inl rfl) nd_many.1 nd_many.2) (pe_cb cs_len rfl T.n_len bt_len (pa_cons (pe_var (i := 9) rfl (Or.inl rfl) nd_places.1 nd_places.2) pa_nil)) (nomark _))))) (pss_one (ps_ret pe_bl)) pss_nil) (pss_cons (ps_for (passes_of rfl) rfl (pi_range1 rfl T.n_range (pa_cons (pe_var (i := 3) rfl (Or.inl rfl) nd_width.1 nd_width.2) pa_nil)) (pg_name (i := 14) sc_law.nd rfl (Or.inl rfl)) (pss_cons (ps_set (i := 12) sc_law.nd rfl (Or.inl rfl) (pe_cl c_mixture hr (by decide) tk rfl (pa_cons (pe_var (i := 10) rfl (Or.inl rfl) nd_a.1 nd_a.2) (pa_cons (pe_var (i := 14) rfl (Or.inl rfl) nd_at.1 nd_at.2) pa_nil)))) (pss_cons (ps_if (pt_not (pt_tr (pe_cl c__law_is_mixture hr (by decide) tk rfl (pa_cons (pe_var (i := 12) rfl (Or.inl rfl) nd_told.1 nd_told.2) (pa_cons (pe_var (i := 4) rfl (Or.inr (Or.inl rfl)) nd_columns.1 nd_columns.2) (pa_cons (pe_var (i := 9) rfl (Or.inl rfl) nd_places.1 nd_places.2) (pa_cons (pe_var (i := 14) rfl (Or.inl rfl) nd_at.1 nd_at.2) pa_nil))))))) (pss_one (ps_ret pe_bl)) pss_nil) (pss_cons (ps_expr (pe_bm PySem.F.plainAttrs_list PySem.F.slot_list_append PySem.F.type_list_append mt_append (pe_var (i := 12) rfl (Or.inl rfl) nd_told.1 nd_told.2) (pa_cons (pe_mak k1_Ratio hr (by decide) tk rfl (pa_cons pe_int pa_nil)) pa_nil))) (pss_one (ps_if (pt_not (pt_tr (pe_cl c__law_is_mixture hr (by decide) tk rfl (pa_cons (pe_cl c_mixture hr (by decide) tk rfl (pa_cons (pe_var (i := 10) rfl (Or.inl rfl) nd_a.1 nd_a.2) (pa_cons (pe_var (i := 14) rfl (Or.inl rfl) nd_at.1 nd_at.2) pa_nil))) (pa_cons (pe_var (i := 4) rfl (Or.inr (Or.inl rfl)) nd_columns.1 nd_columns.2) (pa_cons (pe_var (i := 9) rfl (Or.inl rfl) nd_places.1 nd_places.2) (pa_cons (pe_var (i := 14) rfl (Or.inl rfl) nd_at.1 nd_at.2) pa_nil))))))) (pss_one (ps_ret pe_bl)) pss_nil)))))) (pss_cons (ps_set (i := 15) sc_law.nd rfl (Or.inl rfl) (pe_cl c__law_digit hr (by decide) tk rfl (pa_cons (pe_var (i := 1) rfl (Or.inl rfl) nd_pot.1 nd_pot.2) (pa_cons pe_int pa_nil)))) (pss_cons (ps_for (passes_of rfl) rfl (pi_seqK (KK := G.K) (by rfl) (pe_lst (pa_cons (pe_bin (os_sub hr tk) (pe_una (us_neg hr tk) pe_int) (pe_var (i := 15) rfl (Or.inl rfl) nd_beyond.1 nd_beyond.2)) (pa_cons (pe_bin (os_add hr tk) (pe_var (i := 3) rfl (Or.inl rfl) nd_width.1 nd_width.2) (pe_var (i := 15) rfl (Or.inl rfl) nd_beyond.1 nd_beyond.2)) (pa_cons (pe_una (us_neg hr tk) pe_int) (pa_cons (pe_var (i := 3) rfl (Or.inl rfl) nd_width.1 nd_width.2) pa_nil)))))) (pg_name (i := 16) sc_law.nd rfl (Or.inl rfl)) (pss_one (ps_if (pt_not (pt_tr (pe_cl c__law_bad_place hr (by decide) tk rfl (pa_cons (pe_var (i := 10) rfl (Or.inl rfl) nd_a.1 nd_a.2) (pa_cons (pe_var (i := 16) rfl (Or.inl rfl) nd_place.1 nd_place.2) pa_nil))))) (pss_one (ps_ret pe_bl)) pss_nil))) (pss_cons (ps_if (pt_not (pt_tr (pe_cl c__law_is_list hr (by decide) tk rfl (pa_cons (pe_cl c_independent_columns hr (by decide) tk rfl (pa_cons (pe_var (i := 10) rfl (Or.inl rfl) nd_a.1 nd_a.2) pa_nil)) (pa_cons (pe_var (i := 9) rfl (Or.inl rfl) nd_places.1 nd_places.2) pa_nil))))) (pss_one (ps_ret pe_bl)) pss_nil) (pss_one (ps_ret (pe_cm (os_eqF hr tk) (pe_var (i := 11) rfl (Or.inl rfl) nd_fields.1 nd_fields.2) (pe_tup (pa_cons (pe_fld (pe_var (i := 10) rfl (Or.inl rfl) nd_a.1 nd_a.2) rfl) (pa_cons (pe_fld (pe_var (i := 10) rfl (Or.inl rfl) nd_a.1 nd_a.2) rfl) (pa_cons (pe_fld (pe_var (i := 10) rfl (Or.inl rfl) nd_a.1 nd_a.2) rfl) (pa_cons (pe_fld (pe_var (i := 10) rfl (Or.inl rfl) nd_a.1 nd_a.2) rfl) pa_nil))))) (nomark _))))))))))))))))))))))), ?_⟩)
  rintro ds m K E - ⟨d, ns, rfl, sd, hl, hb, rfl, k⟩
  show Ws _ _ _ [some d, none, none, none, none, none, none, none, none, none, none, none, none, none, none, none, none] _ _
  try dsimp only [cx_G, cx_K]
  have GC := T.D_Grid
  walk_at "gn_1"
  refine ⟨d, ns, rfl, sd, hl, fun p m1 hp hm => ?_⟩
  walk_at "gn_1"
  · decide
  · exact bd_lit (by decide)
  rename_i dg m2 d0 d1 hm2
  obtain ⟨h, at1, hh⟩ := six d0 d1
  refine w2_ixL ⟨at1, ?_⟩
  walk_at "gn_1"
  · decide
  · exact bd_lit (by decide)
  rename_i dg2 m3 d20 d21 hm3
  obtain ⟨w0, at2, hw0⟩ := seven d20 d21
  refine w2_ixL ⟨at2, ?_⟩
  walk_at "gn_1"
  refine Ws.cut (fun r' m' => m' = m3 ∧ ∃ w : Nat, w ≤ 6 ∧ (h = 0 → w = 0) ∧ r' = [some d, some (.ref p), some (.int (h : Nat)), some (.int (w : Nat)), none, none, none, none, none, none, none, none, none, none, none, none, none]) ?_ ?_
  · refine ws_if ?_
    walk_at "gn_1"
    · exact ⟨0, by decide, fun _ => rfl, rfl⟩
    · exact ⟨w0, hw0, fun z => by have := ‹¬ (h : Int) = 0›; omega, rfl⟩
  rintro r' m' ⟨rfl, w, hw, hw0', rfl⟩
  walk_at "gn_1"
  refine use_table hh hw hm3 fun C m4 hC hm4 => ?_
  walk_at "gn_1"
  · decide
  · exact bd_lit (by decide)
  rename_i dg3 m5 d30 d31 hm5
  refine we_lcs (α := Nat) (fun i => .int (i : Int)) (fun i => li ((List.range w).map fun j => C j i)) (gk_name (by decide)) (wi_rng1S ?_)
  walk_at "gn_1"
  · exact rngB (by omega)
  · exact Nat.ble_eq_true_of_le (by rw [List.length_range, Int.toNat_natCast]; omega)
  · rename_i i hi q
    rw [Int.toNat_natCast] at hi
    have hi' := List.mem_range.mp hi
    refine we_lcs (α := Nat) (fun j => li ((List.range h).map fun q => C j q)) (fun j => .int (C j i)) (gk_name (by decide)) (wi_seq (we_var (d := lli (tabR w h C)) rfl ⟨[], _, .lst, List.range w, ?_, Nat.ble_eq_true_of_le (by rw [List.length_range]; omega), fun j hj q2 => wg_name ?_, ?_⟩))
    · rw [tabR, List.map_map]
      rfl
    · walk_at "gn_1"
      all_goals try (rw [List.length_map, List.length_range]; exact hi')
      exact ⟨by rw [range_at' hi'], rfl⟩
    · refine ⟨?_, rfl⟩
      show _ = D.lst (List.map D.int (List.map _ _))
      rw [List.map_map]
      rfl
  rw [Int.toNat_natCast]
  have er : D.lst ((List.range h).map fun i => li ((List.range w).map fun j => C j i)) = lli (tabR h w fun i j => C j i) := by
    unfold lli tabR
    rw [List.map_map]
    rfl
  rw [er]
  walk_at "gn_1"
  refine use_lind hh hw hC fun n pos P v Kw => ?_
  walk_at "gn_1"
  have op : (0 : Int) < 12 - dg3 := by omega
  have ob : Bd 8 (12 - dg3) := by unfold Bd; omega
  have rc : Rc h w (tabR h w fun i j => C j i) := tabR_rc
  have sz : SzT 40 (tabR h w fun i j => C j i) := fun r hr z hz => by
    obtain ⟨i, hi, rfl⟩ := List.mem_map.mp hr
    obtain ⟨j, hj, rfl⟩ := List.mem_map.mp hz
    exact (hC j i (List.mem_range.mp hj) (List.mem_range.mp hi)).bd (by have := List.mem_range.mp hj; omega)
  have eC : ∀ i j, i < h → j < w → ce (tabR h w fun i j => C j i) i j = C j i := fun i j hi hj => tabR_ce hi hj
  generalize hrows : (tabR h w fun i j => C j i) = rows at *
  refine ⟨rows, 12 - dg3, w, rfl, ⟨⟨rc.wid, by rw [rc.len]; omega, by omega, fun z => hw0' (by rw [← rc.len, z]; rfl)⟩, op, ob.mono (by decide), ?_⟩⟩
  have gp : (0 : Int) < (gcv rows (12 - dg3) : Int) := by
    have := gcv_pos (rows := rows) op
    omega
  have ga : GaX h w (redR rows (gcv rows (12 - dg3))) := ⟨rc_red rc, hh, hw, sz_red op sz⟩
  have eR : ∀ i j, i < h → j < w → (gcv rows (12 - dg3) : Int) * ce (redR rows (gcv rows (12 - dg3))) i j = C j i := fun i j hi hj => (rc_ce rc hi hj).trans (eC i j hi hj)
  have eg : gdm C_Grid rows (12 - dg3) w = gd C_Grid (redR rows (gcv rows (12 - dg3))) ((12 - dg3) / (gcv rows (12 - dg3) : Int)) w := rfl
  rw [eg]
  generalize redR rows (gcv rows (12 - dg3)) = R at *
  generalize (12 - dg3) / (gcv rows (12 - dg3) : Int) = o at *
  generalize (gcv rows (12 - dg3) : Int) = g at *
  walk_at "gn_1"
  refine use_icol ga fun P1 k1 T1 s1 pv Rd hpv => ?_
  have sp := same_places (by omega) eR Rd Kw
  have es : pvs k1 P1 = ((List.range n).map fun j => (P j : Int)).map D.int := congrArg (List.map D.int) (same_list sp)
  rw [es]
  walk_at "gn_1"
  have nn := Kw.nj
  refine ws_if (wt_not (wt_tr (we_thaw (r' := [none, none, none, none, none, none, none, none, none, some (li ((List.range n).map fun j => (P j : Int))), none, none, some (li ((List.range n).map fun j => (P j : Int))), none, none, none, none]) (.none (.none (.none (.none (.none (.none (.none (.none (.none (.same (.none (.none (.some (.ref .head (FrzL.same _)) (.none (.none (.none (.none .nil))))))))))))))))) ?_)))
  walk_at "gn_1"
  refine use_islist (by rw [List.length_map, List.length_range]; omega) ⟨rfl, rfl, ?_⟩
  rw [decide_eq_true rfl]
  walk_at "gn_1"
  · simp
    omega
  refine use_rank ga fun P2 k2 T2 s2 Rd2 => ?_
  have kn2 := (same_places (by omega) eR Rd2 Kw).1
  walk_at "gn_1"
  refine Ws.freeze (i := 12) rfl ?_
  refine ws_if ?_
  walk_at "gn_1"
  · exfalso
    have q := ‹¬ (k2 : Int) = ((List.range n).length : Nat)›
    rw [List.length_range] at q
    omega
  let RL : Option D → Option D → Rho := fun o12 o14 => [some d, some (.ref p), some (.int (h : Nat)), some (.int (w : Nat)), some (lli (tabR w h C)), some (.int (12 - dg3)), some (lli rows), none, none, some (li ((List.range n).map fun j => (P j : Int))), some (gd C_Grid R o w), some (.tup [tti R, .int o, .int (R.length : Nat), .int (w : Nat)]), o12, some (.int (k2 : Nat)), o14, none, none]
  refine ws_range1 ?_
  walk_at "gn_1"
  refine ⟨_, fun _ r' m' => m' = m5 ∧ ∃ o12 o14, r' = RL o12 o14, rfl, by omega, ⟨rfl, _, _, rfl⟩, ?_, ?_⟩
  · rintro j r' m' hj ⟨rfl, o12, o14, rfl⟩
    have hj' : j < w := by omega
    have mk : ∀ P3 k3 T3 s3, Red h w w (ce R) P3 k3 T3 s3 → k3 = n ∧ MxA h w n j C P (fun i => dv (T3 i j) s3) s3 fun i => T3 i j := fun P3 k3 T3 s3 Rd3 => by
      have sp3 := same_places (by omega) eR Rd3.rdc Kw
      exact ⟨sp3.1, mx_of hh hw hj' (by omega) eR ga.re.sz (fun a b ha hb => (hC a b ha hb).bd (by omega)) Rd3 sp3⟩
    walk_at "gn_1"
    refine ⟨h, w, R, o, (j : Int), rfl, ga, fun z => absurd ⟨by omega, by omega⟩ z, fun j2 e2 hj2 P3 k3 T3 s3 tp Rd3 htp => ?_⟩
    obtain rfl : j2 = j := by omega
    obtain ⟨rfl, mx⟩ := mk P3 k3 T3 s3 Rd3
    walk_at "gn_1"
    refine ws_if (wt_not (wt_tr (we_thaw (r' := [none, none, none, none, some (lli (tabR w h C)), none, none, none, none, some (li ((List.range k3).map fun j => (P j : Int))), none, none, some (.lst (mxs C_Ratio k3 j2 T3 s3)), none, some (.int (j2 : Nat)), none, none]) (.none (.none (.none (.none (.same (.none (.none (.none (.none (.same (.none (.none (.some (.ref .head (FrzL.same _)) (.none (.same (.none (.none .nil))))))))))))))))) ?_)))
    walk_at "gn_1"
    refine use_ismix mx ⟨rfl, rfl, ?_⟩
    walk_at "gn_1"
    · simp [mxs]
      have := mx.hn
      omega
    refine Ws.freeze (i := 12) rfl (ws_if (wt_not (wt_tr (we_cl0 (wa_cons (we_frz ?_))))))
    walk_at "gn_1"
    refine ⟨h, w, R, o, (j2 : Int), rfl, ga, fun z => absurd ⟨by omega, by omega⟩ z, fun j3 e3 hj3 P4 k4 T4 s4 tp4 Rd4 htp4 => ⟨tp4, _, m', rfl, rfl, ?_⟩⟩
    obtain rfl : j3 = j2 := by omega
    obtain ⟨rfl, mx2⟩ := mk P4 k4 T4 s4 Rd4
    walk_at "gn_1"
    refine use_ismix mx2 ?_
    walk_at "gn_1"
    exact ⟨_, _, rfl⟩
  · rintro r' m' ⟨rfl, o12, o14, rfl⟩
    walk_at "gn_1"
    · decide
    · exact bd_lit (by decide)
    rename_i bey m6 b0 b1 hm6
    refine ws_seqU ?_
    walk_at "gn_1"
    refine ⟨_, .lst, forL_cons (ws_if ?_)⟩
    walk_at "gn_1"
    refine use_badp ga (by omega) ?_
    walk_at "gn_1"
    refine forL_cons (ws_if ?_)
    walk_at "gn_1"
    refine use_badp ga (by omega) ?_
    walk_at "gn_1"
    refine forL_cons (ws_if ?_)
    walk_at "gn_1"
    refine use_badp ga (by omega) ?_
    walk_at "gn_1"
    refine forL_cons (ws_if ?_)
    walk_at "gn_1"
    refine use_badp ga (by omega) ?_
    walk_at "gn_1"
    dsimp only
    refine forL_nil ?_
    dsimp only
    refine ws_seq (ws_if (wt_not (wt_tr (we_cl0 (wa_cons (we_frz ?_))))))
    walk_at "gn_1"
    refine use_icol ga fun P5 k5 T5 s5 pv5 Rd5 hpv5 => ⟨pv5, _, m6, rfl, rfl, ?_⟩
    have sp5 := same_places (by omega) eR Rd5 Kw
    have es5 : pvs k5 P5 = ((List.range n).map fun j => (P j : Int)).map D.int := congrArg (List.map D.int) (same_list sp5)
    rw [es5]
    walk_at "gn_1"
    refine use_islist (by rw [List.length_map, List.length_range]; omega) ?_
    rw [decide_eq_true rfl]
    walk_at "gn_1"
    exact w2_eqKept (k _)
end
end K10
set_option Elab.async false
set_option linter.all false
set_option maxRecDepth 100000
set_option maxHeartbeats 4000000
namespace K10
open PySem PySem.Spec L2 DL
open PyProof.Rows hiding St

theorem all_mk {l : PySem.W.OpenLaw} {w : World} {K : PySem.W.Frag} {h : Heap} {mg : Str → Option Value} {fa : Addr} (X : K.In h) (Gn : h.Ns mainGlobals mg) (hfa : mg "law" = some (.ref fa))
    {C_Ratio : Addr} {C_Grid : Addr} {C_BadShape : Addr} {C_BadPlace N_e_BadPlace : Addr} {nm_BadPlace q_BadPlace : Str} {bs_BadPlace bm_BadPlace sn_BadPlace : _} {sub_BadPlace ab_BadPlace col_BadPlace dd_BadPlace m0_BadPlace m1_BadPlace m2_BadPlace m3_BadPlace m5_BadPlace : _} {C_CarryError : Addr} {f_Ratio___init__ : Addr} {od_Ratio___init__ an_Ratio___init__ : Option Addr} {sl_Ratio___init__ : Array (Option Value)} {oc_Ratio___init__ kV_Ratio___init__ dc_Ratio___init__ pm_Ratio___init__ cd_Ratio___init__ ct_Ratio___init__ : Value} {T_Ratio___init__ : Addr} {tk_Ratio___init__ : Tok} {oT_Ratio___init__ : Option Addr} {nT_Ratio___init__ : Nat} {sT_Ratio___init__ : Array (Option Value)} {cT_Ratio___init__ : Value} {f__check_shape : Addr} {od__check_shape an__check_shape : Option Addr} {sl__check_shape : Array (Option Value)} {oc__check_shape kV__check_shape dc__check_shape pm__check_shape cd__check_shape ct__check_shape : Value} {f__common_divisor : Addr} {od__common_divisor an__common_divisor : Option Addr} {sl__common_divisor : Array (Option Value)} {oc__common_divisor kV__common_divisor dc__common_divisor pm__common_divisor cd__common_divisor ct__common_divisor : Value} {f_Grid___init__ : Addr} {od_Grid___init__ an_Grid___init__ : Option Addr} {sl_Grid___init__ : Array (Option Value)} {oc_Grid___init__ kV_Grid___init__ dc_Grid___init__ pm_Grid___init__ cd_Grid___init__ ct_Grid___init__ : Value} {T_Grid___init__ : Addr} {tk_Grid___init__ : Tok} {oT_Grid___init__ : Option Addr} {nT_Grid___init__ : Nat} {sT_Grid___init__ : Array (Option Value)} {cT_Grid___init__ : Value} {f__first_filled : Addr} {od__first_filled an__first_filled : Option Addr} {sl__first_filled : Array (Option Value)} {oc__first_filled kV__first_filled dc__first_filled pm__first_filled cd__first_filled ct__first_filled : Value} {f__cleared : Addr} {od__cleared an__cleared : Option Addr} {sl__cleared : Array (Option Value)} {oc__cleared kV__cleared dc__cleared pm__cleared cd__cleared ct__cleared : Value} {f_pivot_columns : Addr} {od_pivot_columns an_pivot_columns : Option Addr} {sl_pivot_columns : Array (Option Value)} {oc_pivot_columns kV_pivot_columns dc_pivot_columns pm_pivot_columns cd_pivot_columns ct_pivot_columns : Value} {f_reduced : Addr} {od_reduced an_reduced : Option Addr} {sl_reduced : Array (Option Value)} {oc_reduced kV_reduced dc_reduced pm_reduced cd_reduced ct_reduced : Value} {f_independent_columns : Addr} {od_independent_columns an_independent_columns : Option Addr} {sl_independent_columns : Array (Option Value)} {oc_independent_columns kV_independent_columns dc_independent_columns pm_independent_columns cd_independent_columns ct_independent_columns : Value} {f_rank : Addr} {od_rank an_rank : Option Addr} {sl_rank : Array (Option Value)} {oc_rank kV_rank dc_rank pm_rank cd_rank ct_rank : Value} {f_mixture : Addr} {od_mixture an_mixture : Option Addr} {sl_mixture : Array (Option Value)} {oc_mixture kV_mixture dc_mixture pm_mixture cd_mixture ct_mixture : Value} {f__law_start : Addr} {od__law_start an__law_start : Option Addr} {sl__law_start : Array (Option Value)} {oc__law_start kV__law_start dc__law_start pm__law_start cd__law_start ct__law_start : Value} {f__law_digit : Addr} {od__law_digit an__law_digit : Option Addr} {sl__law_digit : Array (Option Value)} {oc__law_digit kV__law_digit dc__law_digit pm__law_digit cd__law_digit ct__law_digit : Value} {f__law_number : Addr} {od__law_number an__law_number : Option Addr} {sl__law_number : Array (Option Value)} {oc__law_number kV__law_number dc__law_number pm__law_number cd__law_number ct__law_number : Value} {f__law_more : Addr} {od__law_more an__law_more : Option Addr} {sl__law_more : Array (Option Value)} {oc__law_more kV__law_more dc__law_more pm__law_more cd__law_more ct__law_more : Value} {f__law_table : Addr} {od__law_table an__law_table : Option Addr} {sl__law_table : Array (Option Value)} {oc__law_table kV__law_table dc__law_table pm__law_table cd__law_table ct__law_table : Value} {f__law_cleared : Addr} {od__law_cleared an__law_cleared : Option Addr} {sl__law_cleared : Array (Option Value)} {oc__law_cleared kV__law_cleared dc__law_cleared pm__law_cleared cd__law_cleared ct__law_cleared : Value} {f__law_independent : Addr} {od__law_independent an__law_independent : Option Addr} {sl__law_independent : Array (Option Value)} {oc__law_independent kV__law_independent dc__law_independent pm__law_independent cd__law_independent ct__law_independent : Value} {f__law_whole : Addr} {od__law_whole an__law_whole : Option Addr} {sl__law_whole : Array (Option Value)} {oc__law_whole kV__law_whole dc__law_whole pm__law_whole cd__law_whole ct__law_whole : Value} {f__law_pair : Addr} {od__law_pair an__law_pair : Option Addr} {sl__law_pair : Array (Option Value)} {oc__law_pair kV__law_pair dc__law_pair pm__law_pair cd__law_pair ct__law_pair : Value} {f__law_is_mixture : Addr} {od__law_is_mixture an__law_is_mixture : Option Addr} {sl__law_is_mixture : Array (Option Value)} {oc__law_is_mixture kV__law_is_mixture dc__law_is_mixture pm__law_is_mixture cd__law_is_mixture ct__law_is_mixture : Value} {f__law_bad_place : Addr} {od__law_bad_place an__law_bad_place : Option Addr} {sl__law_bad_place : Array (Option Value)} {oc__law_bad_place kV__law_bad_place dc__law_bad_place pm__law_bad_place cd__law_bad_place ct__law_bad_place : Value} {f__law_is_list : Addr} {od__law_is_list an__law_is_list : Option Addr} {sl__law_is_list : Array (Option Value)} {oc__law_is_list kV__law_is_list dc__law_is_list pm__law_is_list cd__law_is_list ct__law_is_list : Value} {f_law : Addr} {od_law an_law : Option Addr} {sl_law : Array (Option Value)} {oc_law kV_law dc_law pm_law cd_law ct_law : Value} {f_BadPlace___init__ : Addr} {od_BadPlace___init__ an_BadPlace___init__ : Option Addr} {sl_BadPlace___init__ : Array (Option Value)} {oc_BadPlace___init__ kV_BadPlace___init__ dc_BadPlace___init__ pm_BadPlace___init__ cd_BadPlace___init__ ct_BadPlace___init__ : Value} {tk_MOST_PLACES : Tok}
    (a_Ratio : PySem.W.nsIn K mainGlobals "Ratio" = some (some (.ref C_Ratio)))
    (pg_Ratio : PySem.W.plainGet K C_Ratio Str.empty = true)
    (hd_Ratio : PySem.W.hasDictIn K C_Ratio = true)
    (po_Ratio : PySem.W.plainOver K C_Ratio = true)
    (sa_Ratio : PySem.W.findIn K (.ref C_Ratio) "__setattr__" = some (some (.builtin "object.__setattr__")))
    (mk_Ratio : PySem.W.makesIn K C_Ratio = true)
    (sf_Ratio : PySem.W.selfFirst K C_Ratio = true)
    (kc_Ratio : PySem.W.keepIn K (.ref C_Ratio) = true)
    (ha_Ratio : PySem.W.findIn K (.ref C_Ratio) "__class__" = some (some (.builtin "object.__class__")))
    (mo_Ratio : PySem.W.mroIn K C_Ratio (.type "object") = some true)
    (is_Ratio : PySem.W.isClsIn K C_Ratio = true)
    (su_Ratio : PySem.W.subIn K (.ref C_Ratio) (.ref C_Ratio) = some true)
    (ty_Ratio : PySem.W.typeIn K (.ref C_Ratio) = some (.type "type"))
    (no_top_Ratio : PySem.W.findIn K (.ref C_Ratio) "top" = some none)
    (no_bottom_Ratio : PySem.W.findIn K (.ref C_Ratio) "bottom" = some none)
    (a_Grid : PySem.W.nsIn K mainGlobals "Grid" = some (some (.ref C_Grid)))
    (pg_Grid : PySem.W.plainGet K C_Grid Str.empty = true)
    (hd_Grid : PySem.W.hasDictIn K C_Grid = true)
    (po_Grid : PySem.W.plainOver K C_Grid = true)
    (sa_Grid : PySem.W.findIn K (.ref C_Grid) "__setattr__" = some (some (.builtin "object.__setattr__")))
    (mk_Grid : PySem.W.makesIn K C_Grid = true)
    (sf_Grid : PySem.W.selfFirst K C_Grid = true)
    (kc_Grid : PySem.W.keepIn K (.ref C_Grid) = true)
    (ha_Grid : PySem.W.findIn K (.ref C_Grid) "__class__" = some (some (.builtin "object.__class__")))
    (mo_Grid : PySem.W.mroIn K C_Grid (.type "object") = some true)
    (is_Grid : PySem.W.isClsIn K C_Grid = true)
    (su_Grid : PySem.W.subIn K (.ref C_Grid) (.ref C_Grid) = some true)
    (ty_Grid : PySem.W.typeIn K (.ref C_Grid) = some (.type "type"))
    (no_rows_Grid : PySem.W.findIn K (.ref C_Grid) "rows" = some none)
    (no_over_Grid : PySem.W.findIn K (.ref C_Grid) "over" = some none)
    (no_height_Grid : PySem.W.findIn K (.ref C_Grid) "height" = some none)
    (no_width_Grid : PySem.W.findIn K (.ref C_Grid) "width" = some none)
    (a_BadShape : PySem.W.nsIn K mainGlobals "BadShape" = some (some (.ref C_BadShape)))
    (xi_BadShape : PySem.W.excIn K C_BadShape [.type "ValueError", .type "Exception", .type "BaseException", .type "object"] "ValueError.__new__" = true)
    (ex_BadShape : PySem.W.subIn K (.ref C_BadShape) (.type "BaseException") = some true)
    (ty_BadShape : PySem.W.typeIn K (.ref C_BadShape) = some (.type "type"))
    (kc_BadShape : PySem.W.keepIn K (.ref C_BadShape) = true)
    (ga_BadShape : PySem.W.findIn K (.ref C_BadShape) "__getattribute__" = some (some (.builtin "BaseException.__getattribute__")))
    (gg_BadShape : PySem.W.findIn K (.ref C_BadShape) "__getattr__" = some none)
    (hd_BadShape : PySem.W.hasDictIn K C_BadShape = true)
    (ha_BadShape : PySem.W.findIn K (.ref C_BadShape) "__class__" = some (some (.builtin "object.__class__")))
    (mo_BadShape : PySem.W.mroIn K C_BadShape (.type "object") = some true)
    (is_BadShape : PySem.W.isClsIn K C_BadShape = true)
    (su_BadShape : PySem.W.subIn K (.ref C_BadShape) (.ref C_BadShape) = some true)
    (a_BadPlace : PySem.W.nsIn K mainGlobals "BadPlace" = some (some (.ref C_BadPlace)))
    (l_BadPlace : K.lookup C_BadPlace = some (excClassObj nm_BadPlace q_BadPlace C_BadPlace N_e_BadPlace bs_BadPlace bm_BadPlace true sn_BadPlace sub_BadPlace ab_BadPlace col_BadPlace dd_BadPlace m0_BadPlace m1_BadPlace m2_BadPlace m3_BadPlace m5_BadPlace "ValueError.__new__"))
    (rf_BadPlace : PySem.HandSPX.refsVE bm_BadPlace = true)
    (sa_BadPlace : PySem.W.findIn K (.ref C_BadPlace) "__setattr__" = some (some (.builtin "object.__setattr__")))
    (ex_BadPlace : PySem.W.subIn K (.ref C_BadPlace) (.type "BaseException") = some true)
    (ty_BadPlace : PySem.W.typeIn K (.ref C_BadPlace) = some (.type "type"))
    (kc_BadPlace : PySem.W.keepIn K (.ref C_BadPlace) = true)
    (ga_BadPlace : PySem.W.findIn K (.ref C_BadPlace) "__getattribute__" = some (some (.builtin "BaseException.__getattribute__")))
    (gg_BadPlace : PySem.W.findIn K (.ref C_BadPlace) "__getattr__" = some none)
    (hd_BadPlace : PySem.W.hasDictIn K C_BadPlace = true)
    (ha_BadPlace : PySem.W.findIn K (.ref C_BadPlace) "__class__" = some (some (.builtin "object.__class__")))
    (mo_BadPlace : PySem.W.mroIn K C_BadPlace (.type "object") = some true)
    (is_BadPlace : PySem.W.isClsIn K C_BadPlace = true)
    (su_BadPlace : PySem.W.subIn K (.ref C_BadPlace) (.ref C_BadPlace) = some true)
    (no_place_BadPlace : PySem.W.findIn K (.ref C_BadPlace) "place" = some none)
    (a_CarryError : PySem.W.nsIn K mainGlobals "CarryError" = some (some (.ref C_CarryError)))
    (ex_CarryError : PySem.W.subIn K (.ref C_CarryError) (.type "BaseException") = some true)
    (ty_CarryError : PySem.W.typeIn K (.ref C_CarryError) = some (.type "type"))
    (hd_CarryError : PySem.W.hasDictIn K C_CarryError = true)
    (is_CarryError : PySem.W.isClsIn K C_CarryError = true)
    (su_BadPlace_BadShape : PySem.W.subIn K (.ref C_BadPlace) (.ref C_BadShape) = some false)
    (su_BadPlace_CarryError : PySem.W.subIn K (.ref C_BadPlace) (.ref C_CarryError) = some true)
    (sT_BadPlace_ValueError : PySem.W.subIn K (.ref C_BadPlace) (.type "ValueError") = some true)
    (gs : PySem.W.specialIn K (.builtin "object.__class__") "__get__" = some (some (.builtin "getset_descriptor.__get__")))
    (gt : PySem.W.takesIn K (.builtin "object.__class__") = some true)
    (a_Ratio___init__ : PySem.W.findIn K (.ref C_Ratio) "__init__" = some (some (.ref f_Ratio___init__)))
    (i_Ratio___init__ : PySem.W.isFn K (.ref f_Ratio___init__) = true)
    (l_Ratio___init__ : K.lookup f_Ratio___init__ = some ⟨oc_Ratio___init__, od_Ratio___init__, .func (PySem.W.fnOf "__init__" "Ratio.__init__" (defArgs s_Ratio___init__) (defBody s_Ratio___init__) (defScope s_Ratio___init__) (.ref T_Ratio___init__) kV_Ratio___init__ dc_Ratio___init__ pm_Ratio___init__ an_Ratio___init__ cd_Ratio___init__ ct_Ratio___init__), sl_Ratio___init__⟩)
    (lT_Ratio___init__ : K.lookup T_Ratio___init__ = some ⟨cT_Ratio___init__, oT_Ratio___init__, .seq [Value.int 1 tk_Ratio___init__].toArray nT_Ratio___init__, sT_Ratio___init__⟩)
    (c_Ratio___init__ : PySem.W.codeIn K cd_Ratio___init__ "Ratio.__init__" = true)
    (k_Ratio___init__ : PySem.W.keepIn K (.ref f_Ratio___init__) = true)
    (a__check_shape : PySem.W.nsIn K mainGlobals "_check_shape" = some (some (.ref f__check_shape)))
    (l__check_shape : K.lookup f__check_shape = some ⟨oc__check_shape, od__check_shape, .func (PySem.W.fnOf "_check_shape" "_check_shape" (defArgs s__check_shape) (defBody s__check_shape) (defScope s__check_shape) .none kV__check_shape dc__check_shape pm__check_shape an__check_shape cd__check_shape ct__check_shape), sl__check_shape⟩)
    (c__check_shape : PySem.W.codeIn K cd__check_shape "_check_shape" = true)
    (k__check_shape : PySem.W.keepIn K (.ref f__check_shape) = true)
    (a__common_divisor : PySem.W.nsIn K mainGlobals "_common_divisor" = some (some (.ref f__common_divisor)))
    (l__common_divisor : K.lookup f__common_divisor = some ⟨oc__common_divisor, od__common_divisor, .func (PySem.W.fnOf "_common_divisor" "_common_divisor" (defArgs s__common_divisor) (defBody s__common_divisor) (defScope s__common_divisor) .none kV__common_divisor dc__common_divisor pm__common_divisor an__common_divisor cd__common_divisor ct__common_divisor), sl__common_divisor⟩)
    (c__common_divisor : PySem.W.codeIn K cd__common_divisor "_common_divisor" = true)
    (k__common_divisor : PySem.W.keepIn K (.ref f__common_divisor) = true)
    (a_Grid___init__ : PySem.W.findIn K (.ref C_Grid) "__init__" = some (some (.ref f_Grid___init__)))
    (i_Grid___init__ : PySem.W.isFn K (.ref f_Grid___init__) = true)
    (l_Grid___init__ : K.lookup f_Grid___init__ = some ⟨oc_Grid___init__, od_Grid___init__, .func (PySem.W.fnOf "__init__" "Grid.__init__" (defArgs s_Grid___init__) (defBody s_Grid___init__) (defScope s_Grid___init__) (.ref T_Grid___init__) kV_Grid___init__ dc_Grid___init__ pm_Grid___init__ an_Grid___init__ cd_Grid___init__ ct_Grid___init__), sl_Grid___init__⟩)
    (lT_Grid___init__ : K.lookup T_Grid___init__ = some ⟨cT_Grid___init__, oT_Grid___init__, .seq [Value.int 1 tk_Grid___init__].toArray nT_Grid___init__, sT_Grid___init__⟩)
    (c_Grid___init__ : PySem.W.codeIn K cd_Grid___init__ "Grid.__init__" = true)
    (k_Grid___init__ : PySem.W.keepIn K (.ref f_Grid___init__) = true)
    (a__first_filled : PySem.W.nsIn K mainGlobals "_first_filled" = some (some (.ref f__first_filled)))
    (l__first_filled : K.lookup f__first_filled = some ⟨oc__first_filled, od__first_filled, .func (PySem.W.fnOf "_first_filled" "_first_filled" (defArgs s__first_filled) (defBody s__first_filled) (defScope s__first_filled) .none kV__first_filled dc__first_filled pm__first_filled an__first_filled cd__first_filled ct__first_filled), sl__first_filled⟩)
    (c__first_filled : PySem.W.codeIn K cd__first_filled "_first_filled" = true)
    (k__first_filled : PySem.W.keepIn K (.ref f__first_filled) = true)
    (a__cleared : PySem.W.nsIn K mainGlobals "_cleared" = some (some (.ref f__cleared)))
    (l__cleared : K.lookup f__cleared = some ⟨oc__cleared, od__cleared, .func (PySem.W.fnOf "_cleared" "_cleared" (defArgs s__cleared) (defBody s__cleared) (defScope s__cleared) .none kV__cleared dc__cleared pm__cleared an__cleared cd__cleared ct__cleared), sl__cleared⟩)
    (c__cleared : PySem.W.codeIn K cd__cleared "_cleared" = true)
    (k__cleared : PySem.W.keepIn K (.ref f__cleared) = true)
    (a_pivot_columns : PySem.W.nsIn K mainGlobals "pivot_columns" = some (some (.ref f_pivot_columns)))
    (l_pivot_columns : K.lookup f_pivot_columns = some ⟨oc_pivot_columns, od_pivot_columns, .func (PySem.W.fnOf "pivot_columns" "pivot_columns" (defArgs s_pivot_columns) (defBody s_pivot_columns) (defScope s_pivot_columns) .none kV_pivot_columns dc_pivot_columns pm_pivot_columns an_pivot_columns cd_pivot_columns ct_pivot_columns), sl_pivot_columns⟩)
    (c_pivot_columns : PySem.W.codeIn K cd_pivot_columns "pivot_columns" = true)
    (k_pivot_columns : PySem.W.keepIn K (.ref f_pivot_columns) = true)
    (a_reduced : PySem.W.nsIn K mainGlobals "reduced" = some (some (.ref f_reduced)))
    (l_reduced : K.lookup f_reduced = some ⟨oc_reduced, od_reduced, .func (PySem.W.fnOf "reduced" "reduced" (defArgs s_reduced) (defBody s_reduced) (defScope s_reduced) .none kV_reduced dc_reduced pm_reduced an_reduced cd_reduced ct_reduced), sl_reduced⟩)
    (c_reduced : PySem.W.codeIn K cd_reduced "reduced" = true)
    (k_reduced : PySem.W.keepIn K (.ref f_reduced) = true)
    (a_independent_columns : PySem.W.nsIn K mainGlobals "independent_columns" = some (some (.ref f_independent_columns)))
    (l_independent_columns : K.lookup f_independent_columns = some ⟨oc_independent_columns, od_independent_columns, .func (PySem.W.fnOf "independent_columns" "independent_columns" (defArgs s_independent_columns) (defBody s_independent_columns) (defScope s_independent_columns) .none kV_independent_columns dc_independent_columns pm_independent_columns an_independent_columns cd_independent_columns ct_independent_columns), sl_independent_columns⟩)
    (c_independent_columns : PySem.W.codeIn K cd_independent_columns "independent_columns" = true)
    (k_independent_columns : PySem.W.keepIn K (.ref f_independent_columns) = true)
    (a_rank : PySem.W.nsIn K mainGlobals "rank" = some (some (.ref f_rank)))
    (l_rank : K.lookup f_rank = some ⟨oc_rank, od_rank, .func (PySem.W.fnOf "rank" "rank" (defArgs s_rank) (defBody s_rank) (defScope s_rank) .none kV_rank dc_rank pm_rank an_rank cd_rank ct_rank), sl_rank⟩)
    (c_rank : PySem.W.codeIn K cd_rank "rank" = true)
    (k_rank : PySem.W.keepIn K (.ref f_rank) = true)
    (a_mixture : PySem.W.nsIn K mainGlobals "mixture" = some (some (.ref f_mixture)))
    (l_mixture : K.lookup f_mixture = some ⟨oc_mixture, od_mixture, .func (PySem.W.fnOf "mixture" "mixture" (defArgs s_mixture) (defBody s_mixture) (defScope s_mixture) .none kV_mixture dc_mixture pm_mixture an_mixture cd_mixture ct_mixture), sl_mixture⟩)
    (c_mixture : PySem.W.codeIn K cd_mixture "mixture" = true)
    (k_mixture : PySem.W.keepIn K (.ref f_mixture) = true)
    (a__law_start : PySem.W.nsIn K mainGlobals "_law_start" = some (some (.ref f__law_start)))
    (l__law_start : K.lookup f__law_start = some ⟨oc__law_start, od__law_start, .func (PySem.W.fnOf "_law_start" "_law_start" (defArgs s__law_start) (defBody s__law_start) (defScope s__law_start) .none kV__law_start dc__law_start pm__law_start an__law_start cd__law_start ct__law_start), sl__law_start⟩)
    (c__law_start : PySem.W.codeIn K cd__law_start "_law_start" = true)
    (k__law_start : PySem.W.keepIn K (.ref f__law_start) = true)
    (a__law_digit : PySem.W.nsIn K mainGlobals "_law_digit" = some (some (.ref f__law_digit)))
    (l__law_digit : K.lookup f__law_digit = some ⟨oc__law_digit, od__law_digit, .func (PySem.W.fnOf "_law_digit" "_law_digit" (defArgs s__law_digit) (defBody s__law_digit) (defScope s__law_digit) .none kV__law_digit dc__law_digit pm__law_digit an__law_digit cd__law_digit ct__law_digit), sl__law_digit⟩)
    (c__law_digit : PySem.W.codeIn K cd__law_digit "_law_digit" = true)
    (k__law_digit : PySem.W.keepIn K (.ref f__law_digit) = true)
    (a__law_number : PySem.W.nsIn K mainGlobals "_law_number" = some (some (.ref f__law_number)))
    (l__law_number : K.lookup f__law_number = some ⟨oc__law_number, od__law_number, .func (PySem.W.fnOf "_law_number" "_law_number" (defArgs s__law_number) (defBody s__law_number) (defScope s__law_number) .none kV__law_number dc__law_number pm__law_number an__law_number cd__law_number ct__law_number), sl__law_number⟩)
    (c__law_number : PySem.W.codeIn K cd__law_number "_law_number" = true)
    (k__law_number : PySem.W.keepIn K (.ref f__law_number) = true)
    (a__law_more : PySem.W.nsIn K mainGlobals "_law_more" = some (some (.ref f__law_more)))
    (l__law_more : K.lookup f__law_more = some ⟨oc__law_more, od__law_more, .func (PySem.W.fnOf "_law_more" "_law_more" (defArgs s__law_more) (defBody s__law_more) (defScope s__law_more) .none kV__law_more dc__law_more pm__law_more an__law_more cd__law_more ct__law_more), sl__law_more⟩)
    (c__law_more : PySem.W.codeIn K cd__law_more "_law_more" = true)
    (k__law_more : PySem.W.keepIn K (.ref f__law_more) = true)
    (a__law_table : PySem.W.nsIn K mainGlobals "_law_table" = some (some (.ref f__law_table)))
    (l__law_table : K.lookup f__law_table = some ⟨oc__law_table, od__law_table, .func (PySem.W.fnOf "_law_table" "_law_table" (defArgs s__law_table) (defBody s__law_table) (defScope s__law_table) .none kV__law_table dc__law_table pm__law_table an__law_table cd__law_table ct__law_table), sl__law_table⟩)
    (c__law_table : PySem.W.codeIn K cd__law_table "_law_table" = true)
    (k__law_table : PySem.W.keepIn K (.ref f__law_table) = true)
    (a__law_cleared : PySem.W.nsIn K mainGlobals "_law_cleared" = some (some (.ref f__law_cleared)))
    (l__law_cleared : K.lookup f__law_cleared = some ⟨oc__law_cleared, od__law_cleared, .func (PySem.W.fnOf "_law_cleared" "_law_cleared" (defArgs s__law_cleared) (defBody s__law_cleared) (defScope s__law_cleared) .none kV__law_cleared dc__law_cleared pm__law_cleared an__law_cleared cd__law_cleared ct__law_cleared), sl__law_cleared⟩)
    (c__law_cleared : PySem.W.codeIn K cd__law_cleared "_law_cleared" = true)
    (k__law_cleared : PySem.W.keepIn K (.ref f__law_cleared) = true)
    (a__law_independent : PySem.W.nsIn K mainGlobals "_law_independent" = some (some (.ref f__law_independent)))
    (l__law_independent : K.lookup f__law_independent = some ⟨oc__law_independent, od__law_independent, .func (PySem.W.fnOf "_law_independent" "_law_independent" (defArgs s__law_independent) (defBody s__law_independent) (defScope s__law_independent) .none kV__law_independent dc__law_independent pm__law_independent an__law_independent cd__law_independent ct__law_independent), sl__law_independent⟩)
    (c__law_independent : PySem.W.codeIn K cd__law_independent "_law_independent" = true)
    (k__law_independent : PySem.W.keepIn K (.ref f__law_independent) = true)
    (a__law_whole : PySem.W.nsIn K mainGlobals "_law_whole" = some (some (.ref f__law_whole)))
    (l__law_whole : K.lookup f__law_whole = some ⟨oc__law_whole, od__law_whole, .func (PySem.W.fnOf "_law_whole" "_law_whole" (defArgs s__law_whole) (defBody s__law_whole) (defScope s__law_whole) .none kV__law_whole dc__law_whole pm__law_whole an__law_whole cd__law_whole ct__law_whole), sl__law_whole⟩)
    (c__law_whole : PySem.W.codeIn K cd__law_whole "_law_whole" = true)
    (k__law_whole : PySem.W.keepIn K (.ref f__law_whole) = true)
    (a__law_pair : PySem.W.nsIn K mainGlobals "_law_pair" = some (some (.ref f__law_pair)))
    (l__law_pair : K.lookup f__law_pair = some ⟨oc__law_pair, od__law_pair, .func (PySem.W.fnOf "_law_pair" "_law_pair" (defArgs s__law_pair) (defBody s__law_pair) (defScope s__law_pair) .none kV__law_pair dc__law_pair pm__law_pair an__law_pair cd__law_pair ct__law_pair), sl__law_pair⟩)
    (c__law_pair : PySem.W.codeIn K cd__law_pair "_law_pair" = true)
    (k__law_pair : PySem.W.keepIn K (.ref f__law_pair) = true)
    (a__law_is_mixture : PySem.W.nsIn K mainGlobals "_law_is_mixture" = some (some (.ref f__law_is_mixture)))
    (l__law_is_mixture : K.lookup f__law_is_mixture = some ⟨oc__law_is_mixture, od__law_is_mixture, .func (PySem.W.fnOf "_law_is_mixture" "_law_is_mixture" (defArgs s__law_is_mixture) (defBody s__law_is_mixture) (defScope s__law_is_mixture) .none kV__law_is_mixture dc__law_is_mixture pm__law_is_mixture an__law_is_mixture cd__law_is_mixture ct__law_is_mixture), sl__law_is_mixture⟩)
    (c__law_is_mixture : PySem.W.codeIn K cd__law_is_mixture "_law_is_mixture" = true)
    (k__law_is_mixture : PySem.W.keepIn K (.ref f__law_is_mixture) = true)
    (a__law_bad_place : PySem.W.nsIn K mainGlobals "_law_bad_place" = some (some (.ref f__law_bad_place)))
    (l__law_bad_place : K.lookup f__law_bad_place = some ⟨oc__law_bad_place, od__law_bad_place, .func (PySem.W.fnOf "_law_bad_place" "_law_bad_place" (defArgs s__law_bad_place) (defBody s__law_bad_place) (defScope s__law_bad_place) .none kV__law_bad_place dc__law_bad_place pm__law_bad_place an__law_bad_place cd__law_bad_place ct__law_bad_place), sl__law_bad_place⟩)
    (c__law_bad_place : PySem.W.codeIn K cd__law_bad_place "_law_bad_place" = true)
    (k__law_bad_place : PySem.W.keepIn K (.ref f__law_bad_place) = true)
    (a__law_is_list : PySem.W.nsIn K mainGlobals "_law_is_list" = some (some (.ref f__law_is_list)))
    (l__law_is_list : K.lookup f__law_is_list = some ⟨oc__law_is_list, od__law_is_list, .func (PySem.W.fnOf "_law_is_list" "_law_is_list" (defArgs s__law_is_list) (defBody s__law_is_list) (defScope s__law_is_list) .none kV__law_is_list dc__law_is_list pm__law_is_list an__law_is_list cd__law_is_list ct__law_is_list), sl__law_is_list⟩)
    (c__law_is_list : PySem.W.codeIn K cd__law_is_list "_law_is_list" = true)
    (k__law_is_list : PySem.W.keepIn K (.ref f__law_is_list) = true)
    (a_law : PySem.W.nsIn K mainGlobals "law" = some (some (.ref f_law)))
    (l_law : K.lookup f_law = some ⟨oc_law, od_law, .func (PySem.W.fnOf "law" "law" (defArgs s_law) (defBody s_law) (defScope s_law) .none kV_law dc_law pm_law an_law cd_law ct_law), sl_law⟩)
    (c_law : PySem.W.codeIn K cd_law "law" = true)
    (k_law : PySem.W.keepIn K (.ref f_law) = true)
    (a_BadPlace___init__ : PySem.W.findIn K (.ref C_BadPlace) "__init__" = some (some (.ref f_BadPlace___init__)))
    (i_BadPlace___init__ : PySem.W.typeIn K (.ref f_BadPlace___init__) = some (.type "function"))
    (l_BadPlace___init__ : K.lookup f_BadPlace___init__ = some ⟨oc_BadPlace___init__, od_BadPlace___init__, .func (PySem.W.fnOf "__init__" "BadPlace.__init__" (defArgs s_BadPlace___init__) (defBody s_BadPlace___init__) (defScope s_BadPlace___init__) .none kV_BadPlace___init__ dc_BadPlace___init__ pm_BadPlace___init__ an_BadPlace___init__ cd_BadPlace___init__ ct_BadPlace___init__), sl_BadPlace___init__⟩)
    (c_BadPlace___init__ : PySem.W.codeIn K cd_BadPlace___init__ "BadPlace.__init__" = true)
    (k_BadPlace___init__ : PySem.W.keepIn K (.ref f_BadPlace___init__) = true)
    (z_abs : PySem.W.nsIn K mainGlobals "abs" = some none)
    (z_len : PySem.W.nsIn K mainGlobals "len" = some none)
    (z_int : PySem.W.nsIn K mainGlobals "int" = some none)
    (z_bool : PySem.W.nsIn K mainGlobals "bool" = some none)
    (z_range : PySem.W.nsIn K mainGlobals "range" = some none)
    (z_isinstance : PySem.W.nsIn K mainGlobals "isinstance" = some none)
    (z_zip : PySem.W.nsIn K mainGlobals "zip" = some none)
    (z_tuple : PySem.W.nsIn K mainGlobals "tuple" = some none)
    (z_list : PySem.W.nsIn K mainGlobals "list" = some none)
    (z_sum : PySem.W.nsIn K mainGlobals "sum" = some none)
    (z_all : PySem.W.nsIn K mainGlobals "all" = some none)
    (z_ValueError : PySem.W.nsIn K mainGlobals "ValueError" = some none)
    (v_gcd : PySem.W.nsIn K mainGlobals "gcd" = some (some (.builtin "math.gcd")))
    (v_MOST_PLACES : PySem.W.nsIn K mainGlobals "MOST_PLACES" = some (some (Value.int 64 tk_MOST_PLACES))) :
    ∃ fd : FuncData, (∀ (s : Shared) (v : Value), BindsTo s fd ⟨[v], []⟩ [("script", v)]) ∧ ∀ base : Heap, K.In base → base.Ns mainGlobals mg → FnOk l.prog w K mg base (L2N.CX l.prog w) 9 fa fd ["script"] (spD 1 (S_law K)) := by
  have e := hfa.symm.trans (PySem.W.mg_of X Gn a_law)
  cases e
  have cls_Ratio : Cls K C_Ratio := ⟨pg_Ratio, hd_Ratio, po_Ratio, sa_Ratio⟩
  have S0_Ratio : RatC K C_Ratio := ⟨⟨cls_Ratio, ha_Ratio, gs, gt, mo_Ratio⟩, no_top_Ratio, no_bottom_Ratio⟩
  have cls_Grid : Cls K C_Grid := ⟨pg_Grid, hd_Grid, po_Grid, sa_Grid⟩
  have S0_Grid : GridC K C_Grid := ⟨⟨cls_Grid, ha_Grid, gs, gt, mo_Grid⟩, no_rows_Grid, no_over_Grid, no_height_Grid, no_width_Grid⟩
  have ox_BadPlace : OexC K C_BadPlace := ⟨⟨_, _, _, _, _, _, _, _, _, _, _, _, _, _, _, l_BadPlace, rf_BadPlace⟩, sa_BadPlace, ex_BadPlace, ty_BadPlace, kc_BadPlace⟩
  have F_Ratio___init__ : FunW K "__init__" "Ratio.__init__" s_Ratio___init__ [V.int 1] f_Ratio___init__ _ := ⟨⟨_, _, _, _, _, _, _, _, _, _, rfl, l_Ratio___init__, c_Ratio___init__, .inr ⟨by simp, _, _, _, _, rfl, lT_Ratio___init__, rfl, .cons ⟨_, rfl⟩ .nil⟩, .inl rfl⟩, k_Ratio___init__⟩
  obtain ⟨ds, hds, b_Ratio___init__⟩ := F_Ratio___init__.binds1 (ps := ["self", "top", "bottom"]) 3 1 (by simp) rfl fun T kV doc pm an cdv ct us its hl hl2 => match us, its, hl, hl2 with
    | [_, _, _], [e], _, _ => ⟨_, rfl, rfl⟩
  have ed : ds = [] := by
    cases hds
    rfl
  subst ed
  obtain ⟨ds1_Ratio___init__, hds1_Ratio___init__, b1_Ratio___init__⟩ := F_Ratio___init__.binds1 (ps := ["self", "top", "bottom"]) 2 0 (by simp) rfl fun T kV doc pm an cdv ct us its hl hl2 => match us, its, hl, hl2 with
    | [_, _], [e], _, _ => ⟨_, rfl, rfl⟩
  have F__check_shape := fun_mk (st := s__check_shape) l__check_shape c__check_shape k__check_shape
  have b__check_shape := F__check_shape.binds (ps := ["rows"]) fun _ _ _ _ _ _ us hl => match us, hl with | [_], _ => rfl
  have F__common_divisor := fun_mk (st := s__common_divisor) l__common_divisor c__common_divisor k__common_divisor
  have b__common_divisor := F__common_divisor.binds (ps := ["rows", "over"]) fun _ _ _ _ _ _ us hl => match us, hl with | [_, _], _ => rfl
  have F_Grid___init__ : FunW K "__init__" "Grid.__init__" s_Grid___init__ [V.int 1] f_Grid___init__ _ := ⟨⟨_, _, _, _, _, _, _, _, _, _, rfl, l_Grid___init__, c_Grid___init__, .inr ⟨by simp, _, _, _, _, rfl, lT_Grid___init__, rfl, .cons ⟨_, rfl⟩ .nil⟩, .inl rfl⟩, k_Grid___init__⟩
  obtain ⟨ds, hds, b_Grid___init__⟩ := F_Grid___init__.binds1 (ps := ["self", "rows", "over"]) 3 1 (by simp) rfl fun T kV doc pm an cdv ct us its hl hl2 => match us, its, hl, hl2 with
    | [_, _, _], [e], _, _ => ⟨_, rfl, rfl⟩
  have ed : ds = [] := by
    cases hds
    rfl
  subst ed
  obtain ⟨ds1_Grid___init__, hds1_Grid___init__, b1_Grid___init__⟩ := F_Grid___init__.binds1 (ps := ["self", "rows", "over"]) 2 0 (by simp) rfl fun T kV doc pm an cdv ct us its hl hl2 => match us, its, hl, hl2 with
    | [_, _], [e], _, _ => ⟨_, rfl, rfl⟩
  have F__first_filled := fun_mk (st := s__first_filled) l__first_filled c__first_filled k__first_filled
  have b__first_filled := F__first_filled.binds (ps := ["table", "start", "column"]) fun _ _ _ _ _ _ us hl => match us, hl with | [_, _, _], _ => rfl
  have F__cleared := fun_mk (st := s__cleared) l__cleared c__cleared k__cleared
  have b__cleared := F__cleared.binds (ps := ["row", "head", "column", "divisor"]) fun _ _ _ _ _ _ us hl => match us, hl with | [_, _, _, _], _ => rfl
  have F_pivot_columns := fun_mk (st := s_pivot_columns) l_pivot_columns c_pivot_columns k_pivot_columns
  have b_pivot_columns := F_pivot_columns.binds (ps := ["rows", "width"]) fun _ _ _ _ _ _ us hl => match us, hl with | [_, _], _ => rfl
  have F_reduced := fun_mk (st := s_reduced) l_reduced c_reduced k_reduced
  have b_reduced := F_reduced.binds (ps := ["rows", "width"]) fun _ _ _ _ _ _ us hl => match us, hl with | [_, _], _ => rfl
  have F_independent_columns := fun_mk (st := s_independent_columns) l_independent_columns c_independent_columns k_independent_columns
  have b_independent_columns := F_independent_columns.binds (ps := ["grid"]) fun _ _ _ _ _ _ us hl => match us, hl with | [_], _ => rfl
  have F_rank := fun_mk (st := s_rank) l_rank c_rank k_rank
  have b_rank := F_rank.binds (ps := ["grid"]) fun _ _ _ _ _ _ us hl => match us, hl with | [_], _ => rfl
  have F_mixture := fun_mk (st := s_mixture) l_mixture c_mixture k_mixture
  have b_mixture := F_mixture.binds (ps := ["grid", "column"]) fun _ _ _ _ _ _ us hl => match us, hl with | [_, _], _ => rfl
  have F__law_start := fun_mk (st := s__law_start) l__law_start c__law_start k__law_start
  have b__law_start := F__law_start.binds (ps := ["script"]) fun _ _ _ _ _ _ us hl => match us, hl with | [_], _ => rfl
  have F__law_digit := fun_mk (st := s__law_digit) l__law_digit c__law_digit k__law_digit
  have b__law_digit := F__law_digit.binds (ps := ["pot", "many"]) fun _ _ _ _ _ _ us hl => match us, hl with | [_, _], _ => rfl
  have F__law_number := fun_mk (st := s__law_number) l__law_number c__law_number k__law_number
  have b__law_number := F__law_number.binds (ps := ["pot", "many", "shift"]) fun _ _ _ _ _ _ us hl => match us, hl with | [_, _, _], _ => rfl
  have F__law_more := fun_mk (st := s__law_more) l__law_more c__law_more k__law_more
  have b__law_more := F__law_more.binds (ps := ["x", "y", "times"]) fun _ _ _ _ _ _ us hl => match us, hl with | [_, _, _], _ => rfl
  have F__law_table := fun_mk (st := s__law_table) l__law_table c__law_table k__law_table
  have b__law_table := F__law_table.binds (ps := ["pot", "height", "width"]) fun _ _ _ _ _ _ us hl => match us, hl with | [_, _, _], _ => rfl
  have F__law_cleared := fun_mk (st := s__law_cleared) l__law_cleared c__law_cleared k__law_cleared
  have b__law_cleared := F__law_cleared.binds (ps := ["x", "y", "at"]) fun _ _ _ _ _ _ us hl => match us, hl with | [_, _, _], _ => rfl
  have F__law_independent := fun_mk (st := s__law_independent) l__law_independent c__law_independent k__law_independent
  have b__law_independent := F__law_independent.binds (ps := ["columns"]) fun _ _ _ _ _ _ us hl => match us, hl with | [_], _ => rfl
  have F__law_whole := fun_mk (st := s__law_whole) l__law_whole c__law_whole k__law_whole
  have b__law_whole := F__law_whole.binds (ps := ["told"]) fun _ _ _ _ _ _ us hl => match us, hl with | [_], _ => rfl
  have F__law_pair := fun_mk (st := s__law_pair) l__law_pair c__law_pair k__law_pair
  have b__law_pair := F__law_pair.binds (ps := ["told"]) fun _ _ _ _ _ _ us hl => match us, hl with | [_], _ => rfl
  have F__law_is_mixture := fun_mk (st := s__law_is_mixture) l__law_is_mixture c__law_is_mixture k__law_is_mixture
  have b__law_is_mixture := F__law_is_mixture.binds (ps := ["told", "columns", "places", "at"]) fun _ _ _ _ _ _ us hl => match us, hl with | [_, _, _, _], _ => rfl
  have F__law_bad_place := fun_mk (st := s__law_bad_place) l__law_bad_place c__law_bad_place k__law_bad_place
  have b__law_bad_place := F__law_bad_place.binds (ps := ["a", "place"]) fun _ _ _ _ _ _ us hl => match us, hl with | [_, _], _ => rfl
  have F__law_is_list := fun_mk (st := s__law_is_list) l__law_is_list c__law_is_list k__law_is_list
  have b__law_is_list := F__law_is_list.binds (ps := ["told", "places"]) fun _ _ _ _ _ _ us hl => match us, hl with | [_, _], _ => rfl
  have F_law := fun_mk (st := s_law) l_law c_law k_law
  have b_law := F_law.binds (ps := ["script"]) fun _ _ _ _ _ _ us hl => match us, hl with | [_], _ => rfl
  have F_BadPlace___init__ := fun_mk (st := s_BadPlace___init__) l_BadPlace___init__ c_BadPlace___init__ k_BadPlace___init__
  have b_BadPlace___init__ := F_BadPlace___init__.binds (ps := ["self", "place"]) fun _ _ _ _ _ _ us hl => match us, hl with | [_, _], _ => rfl
  refine ⟨PySem.W.fnOf "law" "law" (defArgs s_law) (defBody s_law) (defScope s_law) .none kV_law dc_law pm_law an_law cd_law ct_law, fun s v => .of_eq rfl, fun base _ _ => ?_⟩
  have x1_BadPlace : ExcS ⟨l.prog, w, K, mg, base⟩ "BadPlace" C_BadPlace (spXP C_BadPlace "place") := ⟨⟨f_BadPlace___init__, _, _, okx_BadPlace ox_BadPlace no_place_BadPlace (PySem.W.mg_none_of X Gn z_isinstance) (PySem.W.mg_none_of X Gn z_list) (PySem.W.mg_none_of X Gn z_tuple) F_BadPlace___init__, b_BadPlace___init__, a_BadPlace___init__, i_BadPlace___init__⟩, ox_BadPlace, PySem.W.mg_of X Gn a_BadPlace⟩
  have T : Txt ⟨l.prog, w, K, mg, base⟩ C_Ratio C_Grid C_BadShape C_BadPlace C_CarryError := { n_abs := PySem.W.mg_none_of X Gn z_abs, n_len := PySem.W.mg_none_of X Gn z_len, n_int := PySem.W.mg_none_of X Gn z_int, n_bool := PySem.W.mg_none_of X Gn z_bool, n_range := PySem.W.mg_none_of X Gn z_range, n_isinstance := PySem.W.mg_none_of X Gn z_isinstance, n_zip := PySem.W.mg_none_of X Gn z_zip, n_tuple := PySem.W.mg_none_of X Gn z_tuple, n_list := PySem.W.mg_none_of X Gn z_list, n_sum := PySem.W.mg_none_of X Gn z_sum, n_all := PySem.W.mg_none_of X Gn z_all, n_ValueError := PySem.W.mg_none_of X Gn z_ValueError, mg_gcd := PySem.W.mg_of X Gn v_gcd, gc_MOST_PLACES := ⟨_, PySem.W.mg_of X Gn v_MOST_PLACES, ⟨_, rfl⟩⟩, mg_Ratio := PySem.W.mg_of X Gn a_Ratio, mg_Grid := PySem.W.mg_of X Gn a_Grid, mg_BadShape := PySem.W.mg_of X Gn a_BadShape, mg_BadPlace := PySem.W.mg_of X Gn a_BadPlace, mg_CarryError := PySem.W.mg_of X Gn a_CarryError, R_Ratio := S0_Ratio, D_Grid := S0_Grid, x0_BadShape := ⟨xi_BadShape, kc_BadShape, ex_BadShape, ty_BadShape, PySem.W.mg_of X Gn a_BadShape⟩, XC_BadShape := ⟨⟨ga_BadShape, gg_BadShape, ex_BadShape, hd_BadShape⟩, is_BadShape, ha_BadShape, gs, gt, mo_BadShape⟩, XC_BadPlace := ⟨⟨ga_BadPlace, gg_BadPlace, ex_BadPlace, hd_BadPlace⟩, is_BadPlace, ha_BadPlace, gs, gt, mo_BadPlace⟩, x_BadPlace := x1_BadPlace, no_BadPlace_place := no_place_BadPlace, is_Ratio_Ratio := kit_self, is_BadPlace_BadPlace := kit_self, is_BadPlace_BadShape := kit_no su_BadPlace is_BadShape ty_BadShape su_BadPlace_BadShape, isT_BadPlace_ValueError := kit_val sT_BadPlace_ValueError, ex_BadPlace_CarryError := PySem.W.exm_ref ex_CarryError hd_CarryError ty_CarryError su_BadPlace_CarryError }
  have k1_Ratio : Mak ⟨l.prog, w, K, mg, base⟩ _ "Ratio" C_Ratio _ _ [.int 1] := ⟨⟨f_Ratio___init__, ok_init T F_Ratio___init__ b1_Ratio___init__ hds1_Ratio___init__ rfl, ⟨mk_Ratio, a_Ratio___init__, i_Ratio___init__, kc_Ratio⟩⟩, T.mg_Ratio⟩
  have k_Ratio : Mak ⟨l.prog, w, K, mg, base⟩ _ "Ratio" C_Ratio _ _ [] := ⟨⟨f_Ratio___init__, ok_init T F_Ratio___init__ b_Ratio___init__ .nil rfl, ⟨mk_Ratio, a_Ratio___init__, i_Ratio___init__, kc_Ratio⟩⟩, T.mg_Ratio⟩
  have c__check_shape : Cal ⟨l.prog, w, K, mg, base⟩ _ "_check_shape" _ _ [] := ⟨⟨_, ok_shape T F__check_shape b__check_shape, PySem.W.mg_of X Gn a__check_shape, k__check_shape⟩⟩
  have c__common_divisor : Cal ⟨l.prog, w, K, mg, base⟩ _ "_common_divisor" _ _ [] := ⟨⟨_, ok_cdiv T F__common_divisor b__common_divisor, PySem.W.mg_of X Gn a__common_divisor, k__common_divisor⟩⟩
  have k_Grid : Mak ⟨l.prog, w, K, mg, base⟩ _ "Grid" C_Grid _ _ [] := ⟨⟨f_Grid___init__, ok_gmake T c__check_shape c__common_divisor F_Grid___init__ b_Grid___init__ .nil rfl, ⟨mk_Grid, a_Grid___init__, i_Grid___init__, kc_Grid⟩⟩, T.mg_Grid⟩
  have c__first_filled : Cal ⟨l.prog, w, K, mg, base⟩ _ "_first_filled" _ _ [] := ⟨⟨_, ok_ffil T F__first_filled b__first_filled, PySem.W.mg_of X Gn a__first_filled, k__first_filled⟩⟩
  have c__cleared : Cal ⟨l.prog, w, K, mg, base⟩ _ "_cleared" _ _ [] := ⟨⟨_, ok_clrd T F__cleared b__cleared, PySem.W.mg_of X Gn a__cleared, k__cleared⟩⟩
  have c_pivot_columns : Cal ⟨l.prog, w, K, mg, base⟩ _ "pivot_columns" _ _ [] := ⟨⟨_, ok_pcol T c__first_filled c__cleared F_pivot_columns b_pivot_columns, PySem.W.mg_of X Gn a_pivot_columns, k_pivot_columns⟩⟩
  have c_reduced : Cal ⟨l.prog, w, K, mg, base⟩ _ "reduced" _ _ [] := ⟨⟨_, ok_redu T c__first_filled c__cleared F_reduced b_reduced, PySem.W.mg_of X Gn a_reduced, k_reduced⟩⟩
  have c_independent_columns : Cal ⟨l.prog, w, K, mg, base⟩ _ "independent_columns" _ _ [] := ⟨⟨_, ok_icol T c_pivot_columns F_independent_columns b_independent_columns, PySem.W.mg_of X Gn a_independent_columns, k_independent_columns⟩⟩
  have c_rank : Cal ⟨l.prog, w, K, mg, base⟩ _ "rank" _ _ [] := ⟨⟨_, ok_rank T c_independent_columns F_rank b_rank, PySem.W.mg_of X Gn a_rank, k_rank⟩⟩
  have c_mixture : Cal ⟨l.prog, w, K, mg, base⟩ _ "mixture" _ _ [] := ⟨⟨_, ok_mixt T k_Ratio c_reduced F_mixture b_mixture, PySem.W.mg_of X Gn a_mixture, k_mixture⟩⟩
  have c__law_start : Cal ⟨l.prog, w, K, mg, base⟩ _ "_law_start" _ _ [] := ⟨⟨_, ok_pot T F__law_start b__law_start, PySem.W.mg_of X Gn a__law_start, k__law_start⟩⟩
  have c__law_digit : Cal ⟨l.prog, w, K, mg, base⟩ _ "_law_digit" _ _ [] := ⟨⟨_, ok_digit T F__law_digit b__law_digit, PySem.W.mg_of X Gn a__law_digit, k__law_digit⟩⟩
  have c__law_number : Cal ⟨l.prog, w, K, mg, base⟩ _ "_law_number" _ _ [] := ⟨⟨_, ok_number T c__law_digit F__law_number b__law_number, PySem.W.mg_of X Gn a__law_number, k__law_number⟩⟩
  have c__law_more : Cal ⟨l.prog, w, K, mg, base⟩ _ "_law_more" _ _ [] := ⟨⟨_, ok_more T F__law_more b__law_more, PySem.W.mg_of X Gn a__law_more, k__law_more⟩⟩
  have c__law_table : Cal ⟨l.prog, w, K, mg, base⟩ _ "_law_table" _ _ [] := ⟨⟨_, ok_table T c__law_digit c__law_number c__law_more F__law_table b__law_table, PySem.W.mg_of X Gn a__law_table, k__law_table⟩⟩
  have c__law_cleared : Cal ⟨l.prog, w, K, mg, base⟩ _ "_law_cleared" _ _ [] := ⟨⟨_, ok_lclr T F__law_cleared b__law_cleared, PySem.W.mg_of X Gn a__law_cleared, k__law_cleared⟩⟩
  have c__law_independent : Cal ⟨l.prog, w, K, mg, base⟩ _ "_law_independent" _ _ [] := ⟨⟨_, ok_lind T c__law_cleared F__law_independent b__law_independent, PySem.W.mg_of X Gn a__law_independent, k__law_independent⟩⟩
  have c__law_whole : Cal ⟨l.prog, w, K, mg, base⟩ _ "_law_whole" _ _ [] := ⟨⟨_, ok_whole T F__law_whole b__law_whole, PySem.W.mg_of X Gn a__law_whole, k__law_whole⟩⟩
  have h__law_whole := okH_whole T F__law_whole (PySem.W.mg_of X Gn a__law_whole) b__law_whole
  have c__law_pair : Cal ⟨l.prog, w, K, mg, base⟩ _ "_law_pair" _ _ [] := ⟨⟨_, ok_pair T c__law_whole F__law_pair b__law_pair, PySem.W.mg_of X Gn a__law_pair, k__law_pair⟩⟩
  have c__law_is_mixture : Cal ⟨l.prog, w, K, mg, base⟩ _ "_law_is_mixture" _ _ [] := ⟨⟨_, ok_ismix T c__law_pair F__law_is_mixture b__law_is_mixture, PySem.W.mg_of X Gn a__law_is_mixture, k__law_is_mixture⟩⟩
  have c__law_bad_place : Cal ⟨l.prog, w, K, mg, base⟩ _ "_law_bad_place" _ _ [] := ⟨⟨_, ok_badp T c_mixture h__law_whole F__law_bad_place b__law_bad_place, PySem.W.mg_of X Gn a__law_bad_place, k__law_bad_place⟩⟩
  have c__law_is_list : Cal ⟨l.prog, w, K, mg, base⟩ _ "_law_is_list" _ _ [] := ⟨⟨_, ok_islist T c__law_whole F__law_is_list b__law_is_list, PySem.W.mg_of X Gn a__law_is_list, k__law_is_list⟩⟩
  exact ok_law T k_Grid k1_Ratio c__law_start c__law_digit c__law_table c__law_independent c_independent_columns c_rank c_mixture c__law_whole c__law_is_list c__law_is_mixture c__law_bad_place F_law
end K10
set_option Elab.async false
set_option linter.all false
/-
{C_Ratio : Addr} {C_Grid : Addr} {C_BadShape : Addr} {C_BadPlace N_e_BadPlace : Addr} {nm_BadPlace q_BadPlace : Str} {bs_BadPlace bm_BadPlace sn_BadPlace : _} {sub_BadPlace ab_BadPlace col_BadPlace dd_BadPlace m0_BadPlace m1_BadPlace m2_BadPlace m3_BadPlace m5_BadPlace : _} {C_CarryError : Addr} {f_Ratio___init__ : Addr} {od_Ratio___init__ an_Ratio___init__ : Option Addr} {sl_Ratio___init__ : Array (Option Value)} {oc_Ratio___init__ kV_Ratio___init__ dc_Ratio___init__ pm_Ratio___init__ cd_Ratio___init__ ct_Ratio___init__ : Value} {T_Ratio___init__ : Addr} {tk_Ratio___init__ : Tok} {oT_Ratio___init__ : Option Addr} {nT_Ratio___init__ : Nat} {sT_Ratio___init__ : Array (Option Value)} {cT_Ratio___init__ : Value} {f__check_shape : Addr} {od__check_shape an__check_shape : Option Addr} {sl__check_shape : Array (Option Value)} {oc__check_shape kV__check_shape dc__check_shape pm__check_shape cd__check_shape ct__check_shape : Value} {f__common_divisor : Addr} {od__common_divisor an__common_divisor : Option Addr} {sl__common_divisor : Array (Option Value)} {oc__common_divisor kV__common_divisor dc__common_divisor pm__common_divisor cd__common_divisor ct__common_divisor : Value} {f_Grid___init__ : Addr} {od_Grid___init__ an_Grid___init__ : Option Addr} {sl_Grid___init__ : Array (Option Value)} {oc_Grid___init__ kV_Grid___init__ dc_Grid___init__ pm_Grid___init__ cd_Grid___init__ ct_Grid___init__ : Value} {T_Grid___init__ : Addr} {tk_Grid___init__ : Tok} {oT_Grid___init__ : Option Addr} {nT_Grid___init__ : Nat} {sT_Grid___init__ : Array (Option Value)} {cT_Grid___init__ : Value} {f__first_filled : Addr} {od__first_filled an__first_filled : Option Addr} {sl__first_filled : Array (Option Value)} {oc__first_filled kV__first_filled dc__first_filled pm__first_filled cd__first_filled ct__first_filled : Value} {f__cleared : Addr} {od__cleared an__cleared : Option Addr} {sl__cleared : Array (Option Value)} {oc__cleared kV__cleared dc__cleared pm__cleared cd__cleared ct__cleared : Value} {f_pivot_columns : Addr} {od_pivot_columns an_pivot_columns : Option Addr} {sl_pivot_columns : Array (Option Value)} {oc_pivot_columns kV_pivot_columns dc_pivot_columns pm_pivot_columns cd_pivot_columns ct_pivot_columns : Value} {f_reduced : Addr} {od_reduced an_reduced : Option Addr} {sl_reduced : Array (Option Value)} {oc_reduced kV_reduced dc_reduced pm_reduced cd_reduced ct_reduced : Value} {f_independent_columns : Addr} {od_independent_columns an_independent_columns : Option Addr} {sl_independent_columns : Array (Option Value)} {oc_independent_columns kV_independent_columns dc_independent_columns pm_independent_columns cd_independent_columns ct_independent_columns : Value} {f_rank : Addr} {od_rank an_rank : Option Addr} {sl_rank : Array (Option Value)} {oc_rank kV_rank dc_rank pm_rank cd_rank ct_rank : Value} {f_mixture : Addr} {od_mixture an_mixture : Option Addr} {sl_mixture : Array (Option Value)} {oc_mixture kV_mixture dc_mixture pm_mixture cd_mixture ct_mixture : Value} {f__law_start : Addr} {od__law_start an__law_start : Option Addr} {sl__law_start : Array (Option Value)} {oc__law_start kV__law_start dc__law_start pm__law_start cd__law_start ct__law_start : Value} {f__law_digit : Addr} {od__law_digit an__law_digit : Option Addr} {sl__law_digit : Array (Option Value)} {oc__law_digit kV__law_digit dc__law_digit pm__law_digit cd__law_digit ct__law_digit : Value} {f__law_number : Addr} {od__law_number an__law_number : Option Addr} {sl__law_number : Array (Option Value)} {oc__law_number kV__law_number dc__law_number pm__law_number cd__law_number ct__law_number : Value} {f__law_more : Addr} {od__law_more an__law_more : Option Addr} {sl__law_more : Array (Option Value)} {oc__law_more kV__law_more dc__law_more pm__law_more cd__law_more ct__law_more : Value} {f__law_table : Addr} {od__law_table an__law_table : Option Addr} {sl__law_table : Array (Option Value)} {oc__law_table kV__law_table dc__law_table pm__law_table cd__law_table ct__law_table : Value} {f__law_cleared : Addr} {od__law_cleared an__law_cleared : Option Addr} {sl__law_cleared : Array (Option Value)} {oc__law_cleared kV__law_cleared dc__law_cleared pm__law_cleared cd__law_cleared ct__law_cleared : Value} {f__law_independent : Addr} {od__law_independent an__law_independent : Option Addr} {sl__law_independent : Array (Option Value)} {oc__law_independent kV__law_independent dc__law_independent pm__law_independent cd__law_independent ct__law_independent : Value} {f__law_whole : Addr} {od__law_whole an__law_whole : Option Addr} {sl__law_whole : Array (Option Value)} {oc__law_whole kV__law_whole dc__law_whole pm__law_whole cd__law_whole ct__law_whole : Value} {f__law_pair : Addr} {od__law_pair an__law_pair : Option Addr} {sl__law_pair : Array (Option Value)} {oc__law_pair kV__law_pair dc__law_pair pm__law_pair cd__law_pair ct__law_pair : Value} {f__law_is_mixture : Addr} {od__law_is_mixture an__law_is_mixture : Option Addr} {sl__law_is_mixture : Array (Option Value)} {oc__law_is_mixture kV__law_is_mixture dc__law_is_mixture pm__law_is_mixture cd__law_is_mixture ct__law_is_mixture : Value} {f__law_bad_place : Addr} {od__law_bad_place an__law_bad_place : Option Addr} {sl__law_bad_place : Array (Option Value)} {oc__law_bad_place kV__law_bad_place dc__law_bad_place pm__law_bad_place cd__law_bad_place ct__law_bad_place : Value} {f__law_is_list : Addr} {od__law_is_list an__law_is_list : Option Addr} {sl__law_is_list : Array (Option Value)} {oc__law_is_list kV__law_is_list dc__law_is_list pm__law_is_list cd__law_is_list ct__law_is_list : Value} {f_law : Addr} {od_law an_law : Option Addr} {sl_law : Array (Option Value)} {oc_law kV_law dc_law pm_law cd_law ct_law : Value} {f_BadPlace___init__ : Addr} {od_BadPlace___init__ an_BadPlace___init__ : Option Addr} {sl_BadPlace___init__ : Array (Option Value)} {oc_BadPlace___init__ kV_BadPlace___init__ dc_BadPlace___init__ pm_BadPlace___init__ cd_BadPlace___init__ ct_BadPlace___init__ : Value} {tk_MOST_PLACES : Tok}
    (a_Ratio : PySem.W.nsIn K mainGlobals "Ratio" = some (some (.ref C_Ratio)))
    (pg_Ratio : PySem.W.plainGet K C_Ratio Str.empty = true)
    (hd_Ratio : PySem.W.hasDictIn K C_Ratio = true)
    (po_Ratio : PySem.W.plainOver K C_Ratio = true)
    (sa_Ratio : PySem.W.findIn K (.ref C_Ratio) "__setattr__" = some (some (.builtin "object.__setattr__")))
    (mk_Ratio : PySem.W.makesIn K C_Ratio = true)
    (sf_Ratio : PySem.W.selfFirst K C_Ratio = true)
    (kc_Ratio : PySem.W.keepIn K (.ref C_Ratio) = true)
    (ha_Ratio : PySem.W.findIn K (.ref C_Ratio) "__class__" = some (some (.builtin "object.__class__")))
    (mo_Ratio : PySem.W.mroIn K C_Ratio (.type "object") = some true)
    (is_Ratio : PySem.W.isClsIn K C_Ratio = true)
    (su_Ratio : PySem.W.subIn K (.ref C_Ratio) (.ref C_Ratio) = some true)
    (ty_Ratio : PySem.W.typeIn K (.ref C_Ratio) = some (.type "type"))
    (no_top_Ratio : PySem.W.findIn K (.ref C_Ratio) "top" = some none)
    (no_bottom_Ratio : PySem.W.findIn K (.ref C_Ratio) "bottom" = some none)
    (a_Grid : PySem.W.nsIn K mainGlobals "Grid" = some (some (.ref C_Grid)))
    (pg_Grid : PySem.W.plainGet K C_Grid Str.empty = true)
    (hd_Grid : PySem.W.hasDictIn K C_Grid = true)
    (po_Grid : PySem.W.plainOver K C_Grid = true)
    (sa_Grid : PySem.W.findIn K (.ref C_Grid) "__setattr__" = some (some (.builtin "object.__setattr__")))
    (mk_Grid : PySem.W.makesIn K C_Grid = true)
    (sf_Grid : PySem.W.selfFirst K C_Grid = true)
    (kc_Grid : PySem.W.keepIn K (.ref C_Grid) = true)
    (ha_Grid : PySem.W.findIn K (.ref C_Grid) "__class__" = some (some (.builtin "object.__class__")))
    (mo_Grid : PySem.W.mroIn K C_Grid (.type "object") = some true)
    (is_Grid : PySem.W.isClsIn K C_Grid = true)
    (su_Grid : PySem.W.subIn K (.ref C_Grid) (.ref C_Grid) = some true)
    (ty_Grid : PySem.W.typeIn K (.ref C_Grid) = some (.type "type"))
    (no_rows_Grid : PySem.W.findIn K (.ref C_Grid) "rows" = some none)
    (no_over_Grid : PySem.W.findIn K (.ref C_Grid) "over" = some none)
    (no_height_Grid : PySem.W.findIn K (.ref C_Grid) "height" = some none)
    (no_width_Grid : PySem.W.findIn K (.ref C_Grid) "width" = some none)
    (a_BadShape : PySem.W.nsIn K mainGlobals "BadShape" = some (some (.ref C_BadShape)))
    (xi_BadShape : PySem.W.excIn K C_BadShape [.type "ValueError", .type "Exception", .type "BaseException", .type "object"] "ValueError.__new__" = true)
    (ex_BadShape : PySem.W.subIn K (.ref C_BadShape) (.type "BaseException") = some true)
    (ty_BadShape : PySem.W.typeIn K (.ref C_BadShape) = some (.type "type"))
    (kc_BadShape : PySem.W.keepIn K (.ref C_BadShape) = true)
    (ga_BadShape : PySem.W.findIn K (.ref C_BadShape) "__getattribute__" = some (some (.builtin "BaseException.__getattribute__")))
    (gg_BadShape : PySem.W.findIn K (.ref C_BadShape) "__getattr__" = some none)
    (hd_BadShape : PySem.W.hasDictIn K C_BadShape = true)
    (ha_BadShape : PySem.W.findIn K (.ref C_BadShape) "__class__" = some (some (.builtin "object.__class__")))
    (mo_BadShape : PySem.W.mroIn K C_BadShape (.type "object") = some true)
    (is_BadShape : PySem.W.isClsIn K C_BadShape = true)
    (su_BadShape : PySem.W.subIn K (.ref C_BadShape) (.ref C_BadShape) = some true)
    (a_BadPlace : PySem.W.nsIn K mainGlobals "BadPlace" = some (some (.ref C_BadPlace)))
    (l_BadPlace : K.lookup C_BadPlace = some (excClassObj nm_BadPlace q_BadPlace C_BadPlace N_e_BadPlace bs_BadPlace bm_BadPlace true sn_BadPlace sub_BadPlace ab_BadPlace col_BadPlace dd_BadPlace m0_BadPlace m1_BadPlace m2_BadPlace m3_BadPlace m5_BadPlace "ValueError.__new__"))
    (rf_BadPlace : PySem.HandSPX.refsVE bm_BadPlace = true)
    (sa_BadPlace : PySem.W.findIn K (.ref C_BadPlace) "__setattr__" = some (some (.builtin "object.__setattr__")))
    (ex_BadPlace : PySem.W.subIn K (.ref C_BadPlace) (.type "BaseException") = some true)
    (ty_BadPlace : PySem.W.typeIn K (.ref C_BadPlace) = some (.type "type"))
    (kc_BadPlace : PySem.W.keepIn K (.ref C_BadPlace) = true)
    (ga_BadPlace : PySem.W.findIn K (.ref C_BadPlace) "__getattribute__" = some (some (.builtin "BaseException.__getattribute__")))
    (gg_BadPlace : PySem.W.findIn K (.ref C_BadPlace) "__getattr__" = some none)
    (hd_BadPlace : PySem.W.hasDictIn K C_BadPlace = true)
    (ha_BadPlace : PySem.W.findIn K (.ref C_BadPlace) "__class__" = some (some (.builtin "object.__class__")))
    (mo_BadPlace : PySem.W.mroIn K C_BadPlace (.type "object") = some true)
    (is_BadPlace : PySem.W.isClsIn K C_BadPlace = true)
    (su_BadPlace : PySem.W.subIn K (.ref C_BadPlace) (.ref C_BadPlace) = some true)
    (no_place_BadPlace : PySem.W.findIn K (.ref C_BadPlace) "place" = some none)
    (a_CarryError : PySem.W.nsIn K mainGlobals "CarryError" = some (some (.ref C_CarryError)))
    (ex_CarryError : PySem.W.subIn K (.ref C_CarryError) (.type "BaseException") = some true)
    (ty_CarryError : PySem.W.typeIn K (.ref C_CarryError) = some (.type "type"))
    (hd_CarryError : PySem.W.hasDictIn K C_CarryError = true)
    (is_CarryError : PySem.W.isClsIn K C_CarryError = true)
    (su_BadPlace_BadShape : PySem.W.subIn K (.ref C_BadPlace) (.ref C_BadShape) = some false)
    (su_BadPlace_CarryError : PySem.W.subIn K (.ref C_BadPlace) (.ref C_CarryError) = some true)
    (sT_BadPlace_ValueError : PySem.W.subIn K (.ref C_BadPlace) (.type "ValueError") = some true)
    (gs : PySem.W.specialIn K (.builtin "object.__class__") "__get__" = some (some (.builtin "getset_descriptor.__get__")))
    (gt : PySem.W.takesIn K (.builtin "object.__class__") = some true)
    (a_Ratio___init__ : PySem.W.findIn K (.ref C_Ratio) "__init__" = some (some (.ref f_Ratio___init__)))
    (i_Ratio___init__ : PySem.W.isFn K (.ref f_Ratio___init__) = true)
    (l_Ratio___init__ : K.lookup f_Ratio___init__ = some ⟨oc_Ratio___init__, od_Ratio___init__, .func (PySem.W.fnOf "__init__" "Ratio.__init__" (defArgs s_Ratio___init__) (defBody s_Ratio___init__) (defScope s_Ratio___init__) (.ref T_Ratio___init__) kV_Ratio___init__ dc_Ratio___init__ pm_Ratio___init__ an_Ratio___init__ cd_Ratio___init__ ct_Ratio___init__), sl_Ratio___init__⟩)
    (lT_Ratio___init__ : K.lookup T_Ratio___init__ = some ⟨cT_Ratio___init__, oT_Ratio___init__, .seq [Value.int 1 tk_Ratio___init__].toArray nT_Ratio___init__, sT_Ratio___init__⟩)
    (c_Ratio___init__ : PySem.W.codeIn K cd_Ratio___init__ "Ratio.__init__" = true)
    (k_Ratio___init__ : PySem.W.keepIn K (.ref f_Ratio___init__) = true)
    (a__check_shape : PySem.W.nsIn K mainGlobals "_check_shape" = some (some (.ref f__check_shape)))
    (l__check_shape : K.lookup f__check_shape = some ⟨oc__check_shape, od__check_shape, .func (PySem.W.fnOf "_check_shape" "_check_shape" (defArgs s__check_shape) (defBody s__check_shape) (defScope s__check_shape) .none kV__check_shape dc__check_shape pm__check_shape an__check_shape cd__check_shape ct__check_shape), sl__check_shape⟩)
    (c__check_shape : PySem.W.codeIn K cd__check_shape "_check_shape" = true)
    (k__check_shape : PySem.W.keepIn K (.ref f__check_shape) = true)
    (a__common_divisor : PySem.W.nsIn K mainGlobals "_common_divisor" = some (some (.ref f__common_divisor)))
    (l__common_divisor : K.lookup f__common_divisor = some ⟨oc__common_divisor, od__common_divisor, .func (PySem.W.fnOf "_common_divisor" "_common_divisor" (defArgs s__common_divisor) (defBody s__common_divisor) (defScope s__common_divisor) .none kV__common_divisor dc__common_divisor pm__common_divisor an__common_divisor cd__common_divisor ct__common_divisor), sl__common_divisor⟩)
    (c__common_divisor : PySem.W.codeIn K cd__common_divisor "_common_divisor" = true)
    (k__common_divisor : PySem.W.keepIn K (.ref f__common_divisor) = true)
    (a_Grid___init__ : PySem.W.findIn K (.ref C_Grid) "__init__" = some (some (.ref f_Grid___init__)))
    (i_Grid___init__ : PySem.W.isFn K (.ref f_Grid___init__) = true)
    (l_Grid___init__ : K.lookup f_Grid___init__ = some ⟨oc_Grid___init__, od_Grid___init__, .func (PySem.W.fnOf "__init__" "Grid.__init__" (defArgs s_Grid___init__) (defBody s_Grid___init__) (defScope s_Grid___init__) (.ref T_Grid___init__) kV_Grid___init__ dc_Grid___init__ pm_Grid___init__ an_Grid___init__ cd_Grid___init__ ct_Grid___init__), sl_Grid___init__⟩)
    (lT_Grid___init__ : K.lookup T_Grid___init__ = some ⟨cT_Grid___init__, oT_Grid___init__, .seq [Value.int 1 tk_Grid___init__].toArray nT_Grid___init__, sT_Grid___init__⟩)
    (c_Grid___init__ : PySem.W.codeIn K cd_Grid___init__ "Grid.__init__" = true)
    (k_Grid___init__ : PySem.W.keepIn K (.ref f_Grid___init__) = true)
    (a__first_filled : PySem.W.nsIn K mainGlobals "_first_filled" = some (some (.ref f__first_filled)))
    (l__first_filled : K.lookup f__first_filled = some ⟨oc__first_filled, od__first_filled, .func (PySem.W.fnOf "_first_filled" "_first_filled" (defArgs s__first_filled) (defBody s__first_filled) (defScope s__first_filled) .none kV__first_filled dc__first_filled pm__first_filled an__first_filled cd__first_filled ct__first_filled), sl__first_filled⟩)
    (c__first_filled : PySem.W.codeIn K cd__first_filled "_first_filled" = true)
    (k__first_filled : PySem.W.keepIn K (.ref f__first_filled) = true)
    (a__cleared : PySem.W.nsIn K mainGlobals "_cleared" = some (some (.ref f__cleared)))
    (l__cleared : K.lookup f__cleared = some ⟨oc__cleared, od__cleared, .func (PySem.W.fnOf "_cleared" "_cleared" (defArgs s__cleared) (defBody s__cleared) (defScope s__cleared) .none kV__cleared dc__cleared pm__cleared an__cleared cd__cleared ct__cleared), sl__cleared⟩)
    (c__cleared : PySem.W.codeIn K cd__cleared "_cleared" = true)
    (k__cleared : PySem.W.keepIn K (.ref f__cleared) = true)
    (a_pivot_columns : PySem.W.nsIn K mainGlobals "pivot_columns" = some (some (.ref f_pivot_columns)))
    (l_pivot_columns : K.lookup f_pivot_columns = some ⟨oc_pivot_columns, od_pivot_columns, .func (PySem.W.fnOf "pivot_columns" "pivot_columns" (defArgs s_pivot_columns) (defBody s_pivot_columns) (defScope s_pivot_columns) .none kV_pivot_columns dc_pivot_columns pm_pivot_columns an_pivot_columns cd_pivot_columns ct_pivot_columns), sl_pivot_columns⟩)
    (c_pivot_columns : PySem.W.codeIn K cd_pivot_columns "pivot_columns" = true)
    (k_pivot_columns : PySem.W.keepIn K (.ref f_pivot_columns) = true)
    (a_reduced : PySem.W.nsIn K mainGlobals "reduced" = some (some (.ref f_reduced)))
    (l_reduced : K.lookup f_reduced = some ⟨oc_reduced, od_reduced, .func (PySem.W.fnOf "reduced" "reduced" (defArgs s_reduced) (defBody s_reduced) (defScope s_reduced) .none kV_reduced dc_reduced pm_reduced an_reduced cd_reduced ct_reduced), sl_reduced⟩)
    (c_reduced : PySem.W.codeIn K cd_reduced "reduced" = true)
    (k_reduced : PySem.W.keepIn K (.ref f_reduced) = true)
    (a_independent_columns : PySem.W.nsIn K mainGlobals "independent_columns" = some (some (.ref f_independent_columns)))
    (l_independent_columns : K.lookup f_independent_columns = some ⟨oc_independent_columns, od_independent_columns, .func (PySem.W.fnOf "independent_columns" "independent_columns" (defArgs s_independent_columns) (defBody s_independent_columns) (defScope s_independent_columns) .none kV_independent_columns dc_independent_columns pm_independent_columns an_independent_columns cd_independent_columns ct_independent_columns), sl_independent_columns⟩)
    (c_independent_columns : PySem.W.codeIn K cd_independent_columns "independent_columns" = true)
    (k_independent_columns : PySem.W.keepIn K (.ref f_independent_columns) = true)
    (a_rank : PySem.W.nsIn K mainGlobals "rank" = some (some (.ref f_rank)))
    (l_rank : K.lookup f_rank = some ⟨oc_rank, od_rank, .func (PySem.W.fnOf "rank" "rank" (defArgs s_rank) (defBody s_rank) (defScope s_rank) .none kV_rank dc_rank pm_rank an_rank cd_rank ct_rank), sl_rank⟩)
    (c_rank : PySem.W.codeIn K cd_rank "rank" = true)
    (k_rank : PySem.W.keepIn K (.ref f_rank) = true)
    (a_mixture : PySem.W.nsIn K mainGlobals "mixture" = some (some (.ref f_mixture)))
    (l_mixture : K.lookup f_mixture = some ⟨oc_mixture, od_mixture, .func (PySem.W.fnOf "mixture" "mixture" (defArgs s_mixture) (defBody s_mixture) (defScope s_mixture) .none kV_mixture dc_mixture pm_mixture an_mixture cd_mixture ct_mixture), sl_mixture⟩)
    (c_mixture : PySem.W.codeIn K cd_mixture "mixture" = true)
    (k_mixture : PySem.W.keepIn K (.ref f_mixture) = true)
    (a__law_start : PySem.W.nsIn K mainGlobals "_law_start" = some (some (.ref f__law_start)))
    (l__law_start : K.lookup f__law_start = some ⟨oc__law_start, od__law_start, .func (PySem.W.fnOf "_law_start" "_law_start" (defArgs s__law_start) (defBody s__law_start) (defScope s__law_start) .none kV__law_start dc__law_start pm__law_start an__law_start cd__law_start ct__law_start), sl__law_start⟩)
    (c__law_start : PySem.W.codeIn K cd__law_start "_law_start" = true)
    (k__law_start : PySem.W.keepIn K (.ref f__law_start) = true)
    (a__law_digit : PySem.W.nsIn K mainGlobals "_law_digit" = some (some (.ref f__law_digit)))
    (l__law_digit : K.lookup f__law_digit = some ⟨oc__law_digit, od__law_digit, .func (PySem.W.fnOf "_law_digit" "_law_digit" (defArgs s__law_digit) (defBody s__law_digit) (defScope s__law_digit) .none kV__law_digit dc__law_digit pm__law_digit an__law_digit cd__law_digit ct__law_digit), sl__law_digit⟩)
    (c__law_digit : PySem.W.codeIn K cd__law_digit "_law_digit" = true)
    (k__law_digit : PySem.W.keepIn K (.ref f__law_digit) = true)
    (a__law_number : PySem.W.nsIn K mainGlobals "_law_number" = some (some (.ref f__law_number)))
    (l__law_number : K.lookup f__law_number = some ⟨oc__law_number, od__law_number, .func (PySem.W.fnOf "_law_number" "_law_number" (defArgs s__law_number) (defBody s__law_number) (defScope s__law_number) .none kV__law_number dc__law_number pm__law_number an__law_number cd__law_number ct__law_number), sl__law_number⟩)
    (c__law_number : PySem.W.codeIn K cd__law_number "_law_number" = true)
    (k__law_number : PySem.W.keepIn K (.ref f__law_number) = true)
    (a__law_more : PySem.W.nsIn K mainGlobals "_law_more" = some (some (.ref f__law_more)))
    (l__law_more : K.lookup f__law_more = some ⟨oc__law_more, od__law_more, .func (PySem.W.fnOf "_law_more" "_law_more" (defArgs s__law_more) (defBody s__law_more) (defScope s__law_more) .none kV__law_more dc__law_more pm__law_more an__law_more cd__law_more ct__law_more), sl__law_more⟩)
    (c__law_more : PySem.W.codeIn K cd__law_more "_law_more" = true)
    (k__law_more : PySem.W.keepIn K (.ref f__law_more) = true)
    (a__law_table : PySem.W.nsIn K mainGlobals "_law_table" = some (some (.ref f__law_table)))
    (l__law_table : K.lookup f__law_table = some ⟨oc__law_table, od__law_table, .func (PySem.W.fnOf "_law_table" "_law_table" (defArgs s__law_table) (defBody s__law_table) (defScope s__law_table) .none kV__law_table dc__law_table pm__law_table an__law_table cd__law_table ct__law_table), sl__law_table⟩)
    (c__law_table : PySem.W.codeIn K cd__law_table "_law_table" = true)
    (k__law_table : PySem.W.keepIn K (.ref f__law_table) = true)
    (a__law_cleared : PySem.W.nsIn K mainGlobals "_law_cleared" = some (some (.ref f__law_cleared)))
    (l__law_cleared : K.lookup f__law_cleared = some ⟨oc__law_cleared, od__law_cleared, .func (PySem.W.fnOf "_law_cleared" "_law_cleared" (defArgs s__law_cleared) (defBody s__law_cleared) (defScope s__law_cleared) .none kV__law_cleared dc__law_cleared pm__law_cleared an__law_cleared cd__law_cleared ct__law_cleared), sl__law_cleared⟩)
    (c__law_cleared : PySem.W.codeIn K cd__law_cleared "_law_cleared" = true)
    (k__law_cleared : PySem.W.keepIn K (.ref f__law_cleared) = true)
    (a__law_independent : PySem.W.nsIn K mainGlobals "_law_independent" = some (some (.ref f__law_independent)))
    (l__law_independent : K.lookup f__law_independent = some ⟨oc__law_independent, od__law_independent, .func (PySem.W.fnOf "_law_independent" "_law_independent" (defArgs s__law_independent) (defBody s__law_independent) (defScope s__law_independent) .none kV__law_independent dc__law_independent pm__law_independent an__law_independent cd__law_independent ct__law_independent), sl__law_independent⟩)
    (c__law_independent : PySem.W.codeIn K cd__law_independent "_law_independent" = true)
    (k__law_independent : PySem.W.keepIn K (.ref f__law_independent) = true)
    (a__law_whole : PySem.W.nsIn K mainGlobals "_law_whole" = some (some (.ref f__law_whole)))
    (l__law_whole : K.lookup f__law_whole = some ⟨oc__law_whole, od__law_whole, .func (PySem.W.fnOf "_law_whole" "_law_whole" (defArgs s__law_whole) (defBody s__law_whole) (defScope s__law_whole) .none kV__law_whole dc__law_whole pm__law_whole an__law_whole cd__law_whole ct__law_whole), sl__law_whole⟩)
    (c__law_whole : PySem.W.codeIn K cd__law_whole "_law_whole" = true)
    (k__law_whole : PySem.W.keepIn K (.ref f__law_whole) = true)
    (a__law_pair : PySem.W.nsIn K mainGlobals "_law_pair" = some (some (.ref f__law_pair)))
    (l__law_pair : K.lookup f__law_pair = some ⟨oc__law_pair, od__law_pair, .func (PySem.W.fnOf "_law_pair" "_law_pair" (defArgs s__law_pair) (defBody s__law_pair) (defScope s__law_pair) .none kV__law_pair dc__law_pair pm__law_pair an__law_pair cd__law_pair ct__law_pair), sl__law_pair⟩)
    (c__law_pair : PySem.W.codeIn K cd__law_pair "_law_pair" = true)
    (k__law_pair : PySem.W.keepIn K (.ref f__law_pair) = true)
    (a__law_is_mixture : PySem.W.nsIn K mainGlobals "_law_is_mixture" = some (some (.ref f__law_is_mixture)))
    (l__law_is_mixture : K.lookup f__law_is_mixture = some ⟨oc__law_is_mixture, od__law_is_mixture, .func (PySem.W.fnOf "_law_is_mixture" "_law_is_mixture" (defArgs s__law_is_mixture) (defBody s__law_is_mixture) (defScope s__law_is_mixture) .none kV__law_is_mixture dc__law_is_mixture pm__law_is_mixture an__law_is_mixture cd__law_is_mixture ct__law_is_mixture), sl__law_is_mixture⟩)
    (c__law_is_mixture : PySem.W.codeIn K cd__law_is_mixture "_law_is_mixture" = true)
    (k__law_is_mixture : PySem.W.keepIn K (.ref f__law_is_mixture) = true)
    (a__law_bad_place : PySem.W.nsIn K mainGlobals "_law_bad_place" = some (some (.ref f__law_bad_place)))
    (l__law_bad_place : K.lookup f__law_bad_place = some ⟨oc__law_bad_place, od__law_bad_place, .func (PySem.W.fnOf "_law_bad_place" "_law_bad_place" (defArgs s__law_bad_place) (defBody s__law_bad_place) (defScope s__law_bad_place) .none kV__law_bad_place dc__law_bad_place pm__law_bad_place an__law_bad_place cd__law_bad_place ct__law_bad_place), sl__law_bad_place⟩)
    (c__law_bad_place : PySem.W.codeIn K cd__law_bad_place "_law_bad_place" = true)
    (k__law_bad_place : PySem.W.keepIn K (.ref f__law_bad_place) = true)
    (a__law_is_list : PySem.W.nsIn K mainGlobals "_law_is_list" = some (some (.ref f__law_is_list)))
    (l__law_is_list : K.lookup f__law_is_list = some ⟨oc__law_is_list, od__law_is_list, .func (PySem.W.fnOf "_law_is_list" "_law_is_list" (defArgs s__law_is_list) (defBody s__law_is_list) (defScope s__law_is_list) .none kV__law_is_list dc__law_is_list pm__law_is_list an__law_is_list cd__law_is_list ct__law_is_list), sl__law_is_list⟩)
    (c__law_is_list : PySem.W.codeIn K cd__law_is_list "_law_is_list" = true)
    (k__law_is_list : PySem.W.keepIn K (.ref f__law_is_list) = true)
    (a_law : PySem.W.nsIn K mainGlobals "law" = some (some (.ref f_law)))
    (l_law : K.lookup f_law = some ⟨oc_law, od_law, .func (PySem.W.fnOf "law" "law" (defArgs s_law) (defBody s_law) (defScope s_law) .none kV_law dc_law pm_law an_law cd_law ct_law), sl_law⟩)
    (c_law : PySem.W.codeIn K cd_law "law" = true)
    (k_law : PySem.W.keepIn K (.ref f_law) = true)
    (a_BadPlace___init__ : PySem.W.findIn K (.ref C_BadPlace) "__init__" = some (some (.ref f_BadPlace___init__)))
    (i_BadPlace___init__ : PySem.W.typeIn K (.ref f_BadPlace___init__) = some (.type "function"))
    (l_BadPlace___init__ : K.lookup f_BadPlace___init__ = some ⟨oc_BadPlace___init__, od_BadPlace___init__, .func (PySem.W.fnOf "__init__" "BadPlace.__init__" (defArgs s_BadPlace___init__) (defBody s_BadPlace___init__) (defScope s_BadPlace___init__) .none kV_BadPlace___init__ dc_BadPlace___init__ pm_BadPlace___init__ an_BadPlace___init__ cd_BadPlace___init__ ct_BadPlace___init__), sl_BadPlace___init__⟩)
    (c_BadPlace___init__ : PySem.W.codeIn K cd_BadPlace___init__ "BadPlace.__init__" = true)
    (k_BadPlace___init__ : PySem.W.keepIn K (.ref f_BadPlace___init__) = true)
    (z_abs : PySem.W.nsIn K mainGlobals "abs" = some none)
    (z_len : PySem.W.nsIn K mainGlobals "len" = some none)
    (z_int : PySem.W.nsIn K mainGlobals "int" = some none)
    (z_bool : PySem.W.nsIn K mainGlobals "bool" = some none)
    (z_range : PySem.W.nsIn K mainGlobals "range" = some none)
    (z_isinstance : PySem.W.nsIn K mainGlobals "isinstance" = some none)
    (z_zip : PySem.W.nsIn K mainGlobals "zip" = some none)
    (z_tuple : PySem.W.nsIn K mainGlobals "tuple" = some none)
    (z_list : PySem.W.nsIn K mainGlobals "list" = some none)
    (z_sum : PySem.W.nsIn K mainGlobals "sum" = some none)
    (z_all : PySem.W.nsIn K mainGlobals "all" = some none)
    (z_ValueError : PySem.W.nsIn K mainGlobals "ValueError" = some none)
    (v_gcd : PySem.W.nsIn K mainGlobals "gcd" = some (some (.builtin "math.gcd")))
    (v_MOST_PLACES : PySem.W.nsIn K mainGlobals "MOST_PLACES" = some (some (Value.int 64 tk_MOST_PLACES)))
-/
open PySem PySem.W PyProof.Rows
set_option maxRecDepth 100000 in
set_option maxHeartbeats 0 in
theorem PySem.Challenge.cw_fewcarry_k10_columns_and_mixtures_holds : PySem.Challenge.rw_fewcarry_k10_columns_and_mixtures.Holds := by
  w_on; o_law; k_head; (case hw => w_witness2)
  k_fill
  refine DL.walkB (l := PySem.Challenge.rw_fewcarry_k10_columns_and_mixtures) (k := 9) (x := "script") rfl rfl ⟨rfl, by decide, by decide⟩ (fun w h Y => PySem.W.kIn_of Y) ?F
  case F =>
    intro w mg fa h KX G hmg
    refine' K10.all_mk KX G hmg ?a_Ratio ?pg_Ratio ?hd_Ratio ?po_Ratio ?sa_Ratio ?mk_Ratio ?sf_Ratio ?kc_Ratio ?ha_Ratio ?mo_Ratio ?is_Ratio ?su_Ratio ?ty_Ratio ?no_top_Ratio ?no_bottom_Ratio ?a_Grid ?pg_Grid ?hd_Grid ?po_Grid ?sa_Grid ?mk_Grid ?sf_Grid ?kc_Grid ?ha_Grid ?mo_Grid ?is_Grid ?su_Grid ?ty_Grid ?no_rows_Grid ?no_over_Grid ?no_height_Grid ?no_width_Grid ?a_BadShape ?xi_BadShape ?ex_BadShape ?ty_BadShape ?kc_BadShape ?ga_BadShape ?gg_BadShape ?hd_BadShape ?ha_BadShape ?mo_BadShape ?is_BadShape ?su_BadShape ?a_BadPlace ?l_BadPlace ?rf_BadPlace ?sa_BadPlace ?ex_BadPlace ?ty_BadPlace ?kc_BadPlace ?ga_BadPlace ?gg_BadPlace ?hd_BadPlace ?ha_BadPlace ?mo_BadPlace ?is_BadPlace ?su_BadPlace ?no_place_BadPlace ?a_CarryError ?ex_CarryError ?ty_CarryError ?hd_CarryError ?is_CarryError ?su_BadPlace_BadShape ?su_BadPlace_CarryError ?sT_BadPlace_ValueError ?gs ?gt ?a_Ratio___init__ ?i_Ratio___init__ ?l_Ratio___init__ ?lT_Ratio___init__ ?c_Ratio___init__ ?k_Ratio___init__ ?a__check_shape ?l__check_shape ?c__check_shape ?k__check_shape ?a__common_divisor ?l__common_divisor ?c__common_divisor ?k__common_divisor ?a_Grid___init__ ?i_Grid___init__ ?l_Grid___init__ ?lT_Grid___init__ ?c_Grid___init__ ?k_Grid___init__ ?a__first_filled ?l__first_filled ?c__first_filled ?k__first_filled ?a__cleared ?l__cleared ?c__cleared ?k__cleared ?a_pivot_columns ?l_pivot_columns ?c_pivot_columns ?k_pivot_columns ?a_reduced ?l_reduced ?c_reduced ?k_reduced ?a_independent_columns ?l_independent_columns ?c_independent_columns ?k_independent_columns ?a_rank ?l_rank ?c_rank ?k_rank ?a_mixture ?l_mixture ?c_mixture ?k_mixture ?a__law_start ?l__law_start ?c__law_start ?k__law_start ?a__law_digit ?l__law_digit ?c__law_digit ?k__law_digit ?a__law_number ?l__law_number ?c__law_number ?k__law_number ?a__law_more ?l__law_more ?c__law_more ?k__law_more ?a__law_table ?l__law_table ?c__law_table ?k__law_table ?a__law_cleared ?l__law_cleared ?c__law_cleared ?k__law_cleared ?a__law_independent ?l__law_independent ?c__law_independent ?k__law_independent ?a__law_whole ?l__law_whole ?c__law_whole ?k__law_whole ?a__law_pair ?l__law_pair ?c__law_pair ?k__law_pair ?a__law_is_mixture ?l__law_is_mixture ?c__law_is_mixture ?k__law_is_mixture ?a__law_bad_place ?l__law_bad_place ?c__law_bad_place ?k__law_bad_place ?a__law_is_list ?l__law_is_list ?c__law_is_list ?k__law_is_list ?a_law ?l_law ?c_law ?k_law ?a_BadPlace___init__ ?i_BadPlace___init__ ?l_BadPlace___init__ ?c_BadPlace___init__ ?k_BadPlace___init__ ?z_abs ?z_len ?z_int ?z_bool ?z_range ?z_isinstance ?z_zip ?z_tuple ?z_list ?z_sum ?z_all ?z_ValueError ?v_gcd ?v_MOST_PLACES
    (case a_Ratio => k_is)
    (case pg_Ratio => k_is)
    (case hd_Ratio => k_is)
    (case po_Ratio => k_is)
    (case sa_Ratio => k_is)
    (case mk_Ratio => k_is)
    (case sf_Ratio => k_is)
    (case kc_Ratio => k_is)
    (case ha_Ratio => k_is)
    (case mo_Ratio => k_is)
    (case is_Ratio => k_is)
    (case su_Ratio => k_is)
    (case ty_Ratio => k_is)
    (case no_top_Ratio => k_is)
    (case no_bottom_Ratio => k_is)
    (case a_Grid => k_is)
    (case pg_Grid => k_is)
    (case hd_Grid => k_is)
    (case po_Grid => k_is)
    (case sa_Grid => k_is)
    (case mk_Grid => k_is)
    (case sf_Grid => k_is)
    (case kc_Grid => k_is)
    (case ha_Grid => k_is)
    (case mo_Grid => k_is)
    (case is_Grid => k_is)
    (case su_Grid => k_is)
    (case ty_Grid => k_is)
    (case no_rows_Grid => k_is)
    (case no_over_Grid => k_is)
    (case no_height_Grid => k_is)
    (case no_width_Grid => k_is)
    (case a_BadShape => k_is)
    (case xi_BadShape => k_exc)
    (case ex_BadShape => k_is)
    (case ty_BadShape => k_is)
    (case kc_BadShape => k_is)
    (case ga_BadShape => k_is)
    (case gg_BadShape => k_is)
    (case hd_BadShape => k_is)
    (case ha_BadShape => k_is)
    (case mo_BadShape => k_is)
    (case is_BadShape => k_is)
    (case su_BadShape => k_is)
    (case a_BadPlace => k_is)
    (case l_BadPlace => k_is)
    (case rf_BadPlace => decide +kernel)
    (case sa_BadPlace => k_is)
    (case ex_BadPlace => k_is)
    (case ty_BadPlace => k_is)
    (case kc_BadPlace => k_is)
    (case ga_BadPlace => k_is)
    (case gg_BadPlace => k_is)
    (case hd_BadPlace => k_is)
    (case ha_BadPlace => k_is)
    (case mo_BadPlace => k_is)
    (case is_BadPlace => k_is)
    (case su_BadPlace => k_is)
    (case no_place_BadPlace => k_is)
    (case a_CarryError => k_is)
    (case ex_CarryError => k_is)
    (case ty_CarryError => k_is)
    (case hd_CarryError => k_is)
    (case is_CarryError => k_is)
    (case su_BadPlace_BadShape => k_is)
    (case su_BadPlace_CarryError => k_is)
    (case sT_BadPlace_ValueError => k_is)
    (case gs => k_is)
    (case gt => k_is)
    (case a_Ratio___init__ => k_is)
    (case i_Ratio___init__ => k_is)
    (case l_Ratio___init__ => k_is)
    (case lT_Ratio___init__ => k_is)
    (case c_Ratio___init__ => k_is)
    (case k_Ratio___init__ => k_is)
    (case a__check_shape => k_is)
    (case l__check_shape => k_is)
    (case c__check_shape => k_is)
    (case k__check_shape => k_is)
    (case a__common_divisor => k_is)
    (case l__common_divisor => k_is)
    (case c__common_divisor => k_is)
    (case k__common_divisor => k_is)
    (case a_Grid___init__ => k_is)
    (case i_Grid___init__ => k_is)
    (case l_Grid___init__ => k_is)
    (case lT_Grid___init__ => k_is)
    (case c_Grid___init__ => k_is)
    (case k_Grid___init__ => k_is)
    (case a__first_filled => k_is)
    (case l__first_filled => k_is)
    (case c__first_filled => k_is)
    (case k__first_filled => k_is)
    (case a__cleared => k_is)
    (case l__cleared => k_is)
    (case c__cleared => k_is)
    (case k__cleared => k_is)
    (case a_pivot_columns => k_is)
    (case l_pivot_columns => k_is)
    (case c_pivot_columns => k_is)
    (case k_pivot_columns => k_is)
    (case a_reduced => k_is)
    (case l_reduced => k_is)
    (case c_reduced => k_is)
    (case k_reduced => k_is)
    (case a_independent_columns => k_is)
    (case l_independent_columns => k_is)
    (case c_independent_columns => k_is)
    (case k_independent_columns => k_is)
    (case a_rank => k_is)
    (case l_rank => k_is)
    (case c_rank => k_is)
    (case k_rank => k_is)
    (case a_mixture => k_is)
    (case l_mixture => k_is)
    (case c_mixture => k_is)
    (case k_mixture => k_is)
    (case a__law_start => k_is)
    (case l__law_start => k_is)
    (case c__law_start => k_is)
    (case k__law_start => k_is)
    (case a__law_digit => k_is)
    (case l__law_digit => k_is)
    (case c__law_digit => k_is)
    (case k__law_digit => k_is)
    (case a__law_number => k_is)
    (case l__law_number => k_is)
    (case c__law_number => k_is)
    (case k__law_number => k_is)
    (case a__law_more => k_is)
    (case l__law_more => k_is)
    (case c__law_more => k_is)
    (case k__law_more => k_is)
    (case a__law_table => k_is)
    (case l__law_table => k_is)
    (case c__law_table => k_is)
    (case k__law_table => k_is)
    (case a__law_cleared => k_is)
    (case l__law_cleared => k_is)
    (case c__law_cleared => k_is)
    (case k__law_cleared => k_is)
    (case a__law_independent => k_is)
    (case l__law_independent => k_is)
    (case c__law_independent => k_is)
    (case k__law_independent => k_is)
    (case a__law_whole => k_is)
    (case l__law_whole => k_is)
    (case c__law_whole => k_is)
    (case k__law_whole => k_is)
    (case a__law_pair => k_is)
    (case l__law_pair => k_is)
    (case c__law_pair => k_is)
    (case k__law_pair => k_is)
    (case a__law_is_mixture => k_is)
    (case l__law_is_mixture => k_is)
    (case c__law_is_mixture => k_is)
    (case k__law_is_mixture => k_is)
    (case a__law_bad_place => k_is)
    (case l__law_bad_place => k_is)
    (case c__law_bad_place => k_is)
    (case k__law_bad_place => k_is)
    (case a__law_is_list => k_is)
    (case l__law_is_list => k_is)
    (case c__law_is_list => k_is)
    (case k__law_is_list => k_is)
    (case a_law => k_is)
    (case l_law => k_is)
    (case c_law => k_is)
    (case k_law => k_is)
    (case a_BadPlace___init__ => k_is)
    (case i_BadPlace___init__ => k_is)
    (case l_BadPlace___init__ => k_is)
    (case c_BadPlace___init__ => k_is)
    (case k_BadPlace___init__ => k_is)
    (case z_abs => k_is)
    (case z_len => k_is)
    (case z_int => k_is)
    (case z_bool => k_is)
    (case z_range => k_is)
    (case z_isinstance => k_is)
    (case z_zip => k_is)
    (case z_tuple => k_is)
    (case z_list => k_is)
    (case z_sum => k_is)
    (case z_all => k_is)
    (case z_ValueError => k_is)
    (case v_gcd => k_is)
    (case v_MOST_PLACES => k_is)
