import PyProof.Rows.All
import Wide.All
import OpenK.AllK
import Wide.FinOn
import HandS.ForMost
import HandS.ForExc
import HandS.ExcInit
import HandS.CallSlots
import HandS.Wide
import HandS.Style
import HandS.IsInst
import HandS.Comp
import HandS.Gcd
import HandS.ExcCtx
import HandS.HotCalls
import HandS.Defaults
import HandS.ExcField
import HandS.EndBits
import KE.KExcIs
import HandS.ExcIs
import HandS.OwnEq
import PyProof.P3Eq
import HandS.ClsMeth
import PyProof.FitsInt
import KE.KOpsOwn
import HandS.SetFor
import HandS.WideBits
import PyProof.Rows.RuleN_abs
import HandS.Zip
import HandS.Codes
import PyProof.Rows.StrOr
import PyProof.StrOps2
import KE.KIntText
import KE.IntTextLaws
import PySem.Challenge.RW_fewcarry_k03_fraction_text
set_option Elab.async false
set_option linter.all false
set_option maxRecDepth 100000
/-! DL1: values as trees (D), what lies mutable (Mu), and what a reading of the hand layer does to them. -/
namespace DL
open PySem PySem.Spec L2
open PyProof.Rows hiding St

inductive D where
  | non | bl (b : Bool) | int (i : Int) | str (x : Str) | ty (n : String) | ref (a : Addr)
  | tup (xs : List D) | lst (xs : List D) | dic (kvs : List (Key × D)) | ins (C : Addr) (ns : List Str) (ds : List D)
  /-- a caught exception: where it stands, its own dict, its class, its fields -/
  | exc (a : Addr) (dd : Option Addr) (C : Addr) (ns : List Str) (ds : List D)

/-- a mutable object that stands at an address -/
inductive MO where
  | lst (xs : List D) | dic (kvs : List (Key × D)) | ins (C : Addr) (ns : List Str) (ds : List D)
abbrev Mu := List (Addr × MO)
def dom (m : Mu) (a : Addr) : Prop := a ∈ m.map (·.1)
theorem dom_nil {a : Addr} : ¬ dom [] a := fun h => by simp [dom] at h
theorem dom_cons {m : Mu} {p : Addr × MO} {a : Addr} : dom (p :: m) a ↔ a = p.1 ∨ dom m a := by simp [dom]

mutual
inductive Rep (M : Addr → Prop) (H : Hp) : D → V → Prop
  | non : Rep M H .non .non
  | bl (b : Bool) : Rep M H (.bl b) (.bl b)
  | int (i : Int) : Rep M H (.int i) (.int i)
  | str (x : Str) : Rep M H (.str x) (.str x)
  | ty (n : String) : Rep M H (.ty n) (.ty n)
  | ref (a : Addr) : Rep M H (.ref a) (.ref a)
  | tup {a : Addr} {xs : List D} {vs : List V} (m : ¬ M a) (h : Rd H a (.tup vs)) (r : Reps M H xs vs) : Rep M H (.tup xs) (.ref a)
  | lst {a : Addr} {xs : List D} {vs : List V} (m : ¬ M a) (h : Rd H a (.lst vs)) (r : Reps M H xs vs) : Rep M H (.lst xs) (.ref a)
  | dic {a : Addr} {kvs : List (Key × D)} {kws : List (Key × V)} (m : ¬ M a) (h : H a = some (.dK kws)) (r : RepK M H kvs kws) : Rep M H (.dic kvs) (.ref a)
  | ins {a C dx : Addr} {ns : List Str} {ds : List D} {gs : List (Str × V)} (m : ¬ M a) (h : H a = some (.ins C dx gs)) (r : RepF M H ns ds gs) : Rep M H (.ins C ns ds) (.ref a)
  | excN {a C : Addr} : Rep M H (.exc a none C [] []) (.ref a)
  | excS {a d C : Addr} {ns : List Str} {ds : List D} {gs : List (Str × V)} (m : ¬ M d) (h : H d = some (.xd gs)) (r : RepF M H ns ds gs) : Rep M H (.exc a (some d) C ns ds) (.ref a)
inductive Reps (M : Addr → Prop) (H : Hp) : List D → List V → Prop
  | nil : Reps M H [] []
  | cons {d : D} {v : V} {ds : List D} {vs : List V} (r : Rep M H d v) (t : Reps M H ds vs) : Reps M H (d :: ds) (v :: vs)
inductive RepK (M : Addr → Prop) (H : Hp) : List (Key × D) → List (Key × V) → Prop
  | nil : RepK M H [] []
  | cons {k : Key} {d : D} {v : V} {ds : List (Key × D)} {vs : List (Key × V)} (r : Rep M H d v) (t : RepK M H ds vs) : RepK M H ((k, d) :: ds) ((k, v) :: vs)
inductive RepF (M : Addr → Prop) (H : Hp) : List Str → List D → List (Str × V) → Prop
  | nil : RepF M H [] [] []
  | cons {n : Str} {d : D} {v : V} {ns : List Str} {ds : List D} {vs : List (Str × V)} (r : Rep M H d v) (t : RepF M H ns ds vs) : RepF M H (n :: ns) (d :: ds) ((n, v) :: vs)
end

/-- from M, H to M', H': what was fixed is fixed and as it was -/
def Stp (M : Addr → Prop) (H : Hp) (M' : Addr → Prop) (H' : Hp) : Prop := ∀ a o, H a = some o → ¬ M a → H' a = some o ∧ ¬ M' a
theorem Stp.refl (M : Addr → Prop) (H : Hp) : Stp M H M H := fun _ _ h m => ⟨h, m⟩
theorem Stp.trans {M M1 M2 : Addr → Prop} {H H1 H2 : Hp} (a : Stp M H M1 H1) (b : Stp M1 H1 M2 H2) : Stp M H M2 H2 := fun x o h m => b x o (a x o h m).1 (a x o h m).2
theorem Stp.rd {M M' : Addr → Prop} {H H' : Hp} (s : Stp M H M' H') {a : Addr} {u : HO} (m : ¬ M a) (h : Rd H a u) : Rd H' a u ∧ ¬ M' a := by
  rcases h with h | ⟨o, h⟩
  · exact ⟨.inl (s a _ h m).1, (s a _ h m).2⟩
  · exact ⟨.inr ⟨o, (s a _ h m).1⟩, (s a _ h m).2⟩
/-- a new object is laid (fixed) -/
theorem Stp.new {M : Addr → Prop} {H : Hp} {p : Addr} {o : HO} (n : H p = none) : Stp M H M (upd H p o) := fun a u h m => ⟨by rw [upd_ne (ne_of_none h n)]; exact h, m⟩
/-- .. mutable -/
theorem Stp.newM {m : Mu} {H : Hp} {p : Addr} {o : HO} {x : MO} (n : H p = none) : Stp (dom m) H (dom ((p, x) :: m)) (upd H p o) := fun a u h k =>
  ⟨by rw [upd_ne (ne_of_none h n)]; exact h, fun z => (dom_cons.mp z).elim (ne_of_none h n) k⟩
/-- a mutable one is written -/
theorem Stp.wr {m m' : Mu} {H : Hp} {p : Addr} {o : HO} (hp : dom m p) (hd : ∀ a, dom m' a → dom m a) : Stp (dom m) H (dom m') (upd H p o) := fun a u h k =>
  ⟨by rw [upd_ne (fun e => k (by rw [e]; exact hp))]; exact h, fun z => k (hd a z)⟩
theorem Stp.less {M M' : Addr → Prop} {H : Hp} (h : ∀ a, M' a → M a) : Stp M H M' H := fun a _ e m => ⟨e, fun z => m (h a z)⟩

mutual
theorem Rep.mono {M M' : Addr → Prop} {H H' : Hp} (s : Stp M H M' H') : ∀ {d : D} {v : V}, Rep M H d v → Rep M' H' d v
  | _, _, .non => .non
  | _, _, .bl b => .bl b
  | _, _, .int i => .int i
  | _, _, .str x => .str x
  | _, _, .ty n => .ty n
  | _, _, .ref a => .ref a
  | _, _, .tup m h r => .tup (s.rd m h).2 (s.rd m h).1 (Reps.mono s r)
  | _, _, .lst m h r => .lst (s.rd m h).2 (s.rd m h).1 (Reps.mono s r)
  | _, _, .dic m h r => .dic (s _ _ h m).2 (s _ _ h m).1 (RepK.mono s r)
  | _, _, .ins m h r => .ins (s _ _ h m).2 (s _ _ h m).1 (RepF.mono s r)
  | _, _, .excN => .excN
  | _, _, .excS m h r => .excS (s _ _ h m).2 (s _ _ h m).1 (RepF.mono s r)
theorem Reps.mono {M M' : Addr → Prop} {H H' : Hp} (s : Stp M H M' H') : ∀ {d : List D} {v : List V}, Reps M H d v → Reps M' H' d v
  | _, _, .nil => .nil
  | _, _, .cons r t => .cons (Rep.mono s r) (Reps.mono s t)
theorem RepK.mono {M M' : Addr → Prop} {H H' : Hp} (s : Stp M H M' H') : ∀ {d : List (Key × D)} {v : List (Key × V)}, RepK M H d v → RepK M' H' d v
  | _, _, .nil => .nil
  | _, _, .cons r t => .cons (Rep.mono s r) (RepK.mono s t)
theorem RepF.mono {M M' : Addr → Prop} {H H' : Hp} (s : Stp M H M' H') : ∀ {n : List Str} {d : List D} {v : List (Str × V)}, RepF M H n d v → RepF M' H' n d v
  | _, _, _, .nil => .nil
  | _, _, _, .cons r t => .cons (Rep.mono s r) (RepF.mono s t)
end

theorem Reps.length {M : Addr → Prop} {H : Hp} : ∀ {d : List D} {v : List V}, Reps M H d v → d.length = v.length
  | _, _, .nil => rfl
  | _, _, .cons _ t => congrArg (· + 1) (Reps.length t)
theorem Reps.get {M : Addr → Prop} {H : Hp} : ∀ {d : List D} {v : List V} {i : Nat} {x : D}, Reps M H d v → d[i]? = some x → ∃ y, v[i]? = some y ∧ Rep M H x y
  | _, _, _, _, .nil, e => by simp at e
  | _, _, 0, _, .cons r _, e => by simp at e; subst e; exact ⟨_, rfl, r⟩
  | _, _, i + 1, x, .cons _ t, e => by
    obtain ⟨y, h1, h2⟩ := Reps.get (i := i) (x := x) t (by simpa using e)
    exact ⟨y, by simpa using h1, h2⟩
theorem Reps.getV {M : Addr → Prop} {H : Hp} : ∀ {d : List D} {v : List V} {i : Nat} {y : V}, Reps M H d v → v[i]? = some y → ∃ x, d[i]? = some x ∧ Rep M H x y
  | _, _, _, _, .nil, e => by simp at e
  | _, _, 0, _, .cons r _, e => by simp at e; subst e; exact ⟨_, rfl, r⟩
  | _, _, i + 1, y, .cons _ t, e => by
    obtain ⟨x, h1, h2⟩ := Reps.getV (i := i) (y := y) t (by simpa using e)
    exact ⟨x, by simpa using h1, h2⟩
theorem Reps.append {M : Addr → Prop} {H : Hp} : ∀ {d d' : List D} {v v' : List V}, Reps M H d v → Reps M H d' v' → Reps M H (d ++ d') (v ++ v')
  | _, _, _, _, .nil, h => h
  | _, _, _, _, .cons r t, h => .cons r (Reps.append t h)
theorem Reps.set {M : Addr → Prop} {H : Hp} {x : D} {y : V} (q : Rep M H x y) : ∀ {d : List D} {v : List V} (i : Nat), Reps M H d v → Reps M H (d.set i x) (v.set i y)
  | _, _, _, .nil => .nil
  | _, _, 0, .cons _ t => .cons q t
  | _, _, i + 1, .cons r t => .cons r (Reps.set q i t)
theorem Reps.drop {M : Addr → Prop} {H : Hp} : ∀ {d : List D} {v : List V} (n : Nat), Reps M H d v → Reps M H (d.drop n) (v.drop n)
  | _, _, 0, h => h
  | _, _, _ + 1, .nil => .nil
  | _, _, n + 1, .cons _ t => Reps.drop n t
theorem Reps.take {M : Addr → Prop} {H : Hp} : ∀ {d : List D} {v : List V} (n : Nat), Reps M H d v → Reps M H (d.take n) (v.take n)
  | _, _, 0, _ => .nil
  | _, _, _ + 1, .nil => .nil
  | _, _, n + 1, .cons r t => .cons r (Reps.take n t)
theorem Reps.ints {M : Addr → Prop} {H : Hp} : ∀ (l : List Int), Reps M H (l.map D.int) (l.map V.int)
  | [] => .nil
  | i :: l => .cons (.int i) (Reps.ints l)
theorem RepF.names {M : Addr → Prop} {H : Hp} : ∀ {n : List Str} {d : List D} {v : List (Str × V)}, RepF M H n d v → v.map (·.1) = n
  | _, _, _, .nil => rfl
  | _, _, _, .cons _ t => congrArg (_ :: ·) (RepF.names t)
/-- the place of a field -/
def fix (f : Str) : List Str → List D → Option D
  | n :: ns, d :: ds => if f = n then some d else fix f ns ds
  | _, _ => none
theorem RepF.look {M : Addr → Prop} {H : Hp} {f : Str} {x : D} : ∀ {n : List Str} {d : List D} {v : List (Str × V)}, RepF M H n d v → fix f n d = some x → ∃ y, v.lookup f = some y ∧ Rep M H x y
  | _, _, _, .nil, e => by simp [fix] at e
  | n :: ns, d :: ds, (_, v) :: vs, .cons r t, e => by
    unfold fix at e
    rw [lookup_put]
    by_cases h : f = n
    · rw [if_pos h] at e ⊢
      cases e
      exact ⟨v, rfl, r⟩
    · rw [if_neg h] at e ⊢
      exact RepF.look t e
theorem lookup_none {f : Str} : ∀ {v : List (Str × V)}, f ∉ v.map (·.1) → v.lookup f = none
  | [], _ => rfl
  | (n, v) :: vs, h => by
    rw [lookup_put, if_neg (fun e => h (by simp [e]))]
    exact lookup_none (fun z => h (by simp [z]))
theorem RepF.no {M : Addr → Prop} {H : Hp} {f : Str} {n : List Str} {d : List D} {v : List (Str × V)} (r : RepF M H n d v) (h : n.contains f = false) : v.lookup f = none :=
  lookup_none fun z => by
    rw [r.names] at z
    rw [List.contains_iff_mem.mpr z] at h
    cases h

/-! ### the mutable part -/
inductive MRep (M : Addr → Prop) (H : Hp) (a : Addr) : MO → Prop
  | lst {xs : List D} {vs : List V} (h : H a = some (.lst vs)) (r : Reps M H xs vs) : MRep M H a (.lst xs)
  | dic {kvs : List (Key × D)} {kws : List (Key × V)} (h : H a = some (.dK kws)) (r : RepK M H kvs kws) : MRep M H a (.dic kvs)
  | ins {C dx : Addr} {ns : List Str} {ds : List D} {gs : List (Str × V)} (h : H a = some (.ins C dx gs)) (r : RepF M H ns ds gs) : MRep M H a (.ins C ns ds)
structure MutR (m : Mu) (H : Hp) : Prop where
  nd : (m.map (·.1)).Nodup
  at_ : ∀ p ∈ m, MRep (dom m) H p.1 p.2
theorem MRep.there {M : Addr → Prop} {H : Hp} {a : Addr} {o : MO} (r : MRep M H a o) : ∃ u, H a = some u := by
  cases r with
  | lst h _ => exact ⟨_, h⟩
  | dic h _ => exact ⟨_, h⟩
  | ins h _ => exact ⟨_, h⟩
theorem MRep.mono {M M' : Addr → Prop} {H H' : Hp} {a : Addr} {o : MO} (s : Stp M H M' H') (k : ∀ u, H a = some u → H' a = some u) (r : MRep M H a o) : MRep M' H' a o := by
  cases r with
  | lst h r => exact .lst (k _ h) (r.mono s)
  | dic h r => exact .dic (k _ h) (r.mono s)
  | ins h r => exact .ins (k _ h) (r.mono s)
theorem MutR.nil (H : Hp) : MutR [] H := ⟨List.nodup_nil, fun _ h => by cases h⟩
theorem MutR.there {m : Mu} {H : Hp} (r : MutR m H) {a : Addr} (h : dom m a) : ∃ u, H a = some u := by
  obtain ⟨p, hp, e⟩ := List.mem_map.mp h
  subst e
  exact (r.at_ p hp).there
/-- a new fixed object -/
theorem MutR.new {m : Mu} {H : Hp} {p : Addr} {o : HO} (r : MutR m H) (n : H p = none) : MutR m (upd H p o) :=
  ⟨r.nd, fun q hq => (r.at_ q hq).mono (Stp.new n) fun u e => by rw [upd_ne (ne_of_none e n)]; exact e⟩
/-- a new mutable object -/
theorem MutR.newM {m : Mu} {H : Hp} {p : Addr} {o : HO} {x : MO} (r : MutR m H) (n : H p = none) (h : MRep (dom ((p, x) :: m)) (upd H p o) p x) : MutR ((p, x) :: m) (upd H p o) := by
  refine ⟨List.nodup_cons.mpr ⟨fun z => ?_, r.nd⟩, fun q hq => ?_⟩
  · obtain ⟨u, e⟩ := r.there (a := p) z
    rw [n] at e
    cases e
  · rcases List.mem_cons.mp hq with e | hq
    · subst e; exact h
    · exact (r.at_ q hq).mono (Stp.newM n) fun u e => by rw [upd_ne (ne_of_none e n)]; exact e
inductive At : Mu → Addr → MO → Prop
  | head {m : Mu} {p : Addr} {o : MO} : At ((p, o) :: m) p o
  | tail {m : Mu} {p : Addr} {o : MO} {q : Addr × MO} (h : At m p o) : At (q :: m) p o
inductive Put : Mu → Addr → MO → Mu → Prop
  | head {m : Mu} {p : Addr} {o u : MO} : Put ((p, o) :: m) p u ((p, u) :: m)
  | tail {m m' : Mu} {p : Addr} {u : MO} {q : Addr × MO} (h : Put m p u m') : Put (q :: m) p u (q :: m')
theorem At.mem {m : Mu} {p : Addr} {o : MO} (h : At m p o) : (p, o) ∈ m := by
  induction h with
  | head => exact List.mem_cons_self ..
  | tail _ ih => exact List.mem_cons_of_mem _ ih
theorem At.dom {m : Mu} {p : Addr} {o : MO} (h : At m p o) : dom m p := List.mem_map.mpr ⟨_, h.mem, rfl⟩
theorem At.rep {m : Mu} {p : Addr} {o : MO} {H : Hp} (h : At m p o) (r : MutR m H) : MRep (DL.dom m) H p o := r.at_ _ h.mem
theorem Put.keys {m m' : Mu} {p : Addr} {u : MO} (h : Put m p u m') : m'.map (·.1) = m.map (·.1) := by
  induction h with
  | head => rfl
  | tail _ ih => simp [ih]
theorem Put.dom {m m' : Mu} {p : Addr} {u : MO} (h : Put m p u m') : dom m' = dom m := by
  funext a
  unfold DL.dom
  rw [h.keys]
theorem Put.has {m m' : Mu} {p : Addr} {u : MO} (h : Put m p u m') : DL.dom m p := by
  induction h with
  | head => exact dom_cons.mpr (.inl rfl)
  | tail _ ih => exact dom_cons.mpr (.inr ih)
theorem Put.mem {m m' : Mu} {p : Addr} {u : MO} (h : Put m p u m') (nd : (m.map (·.1)).Nodup) : ∀ q ∈ m', (q = (p, u)) ∨ (q ∈ m ∧ q.1 ≠ p) := by
  induction h with
  | head =>
    intro q hq
    rcases List.mem_cons.mp hq with e | hq
    · exact .inl e
    · refine .inr ⟨List.mem_cons_of_mem _ hq, fun e => ?_⟩
      exact (List.nodup_cons.mp nd).1 (List.mem_map.mpr ⟨q, hq, e⟩)
  | tail h ih =>
    intro q hq
    rcases List.mem_cons.mp hq with e | hq
    · subst e
      refine .inr ⟨List.mem_cons_self .., fun e => ?_⟩
      have z := h.has
      rw [← e] at z
      exact (List.nodup_cons.mp nd).1 z
    · rcases ih (List.nodup_cons.mp nd).2 q hq with e | ⟨a, b⟩
      · exact .inl e
      · exact .inr ⟨List.mem_cons_of_mem _ a, b⟩
/-- a mutable object is written -/
theorem Put.stp {m m' : Mu} {p : Addr} {u : MO} {H : Hp} {o : HO} (h : Put m p u m') : Stp (DL.dom m) H (DL.dom m') (upd H p o) := Stp.wr h.has (fun a z => by rw [h.dom] at z; exact z)
theorem Put.mut {m m' : Mu} {p : Addr} {u : MO} {H : Hp} {o : HO} (h : Put m p u m') (r : MutR m H) (n : MRep (DL.dom m') (upd H p o) p u) : MutR m' (upd H p o) := by
  refine ⟨by rw [h.keys]; exact r.nd, fun q hq => ?_⟩
  rcases h.mem r.nd q hq with e | ⟨a, b⟩
  · subst e; exact n
  · exact (r.at_ q a).mono h.stp fun v e => by rw [upd_ne b]; exact e
/-- the newest mutable object is let go (it stays as it is) -/
theorem MutR.drop {m : Mu} {p : Addr × MO} {H : Hp} (r : MutR (p :: m) H) : MutR m H :=
  ⟨(List.nodup_cons.mp r.nd).2, fun q hq => (r.at_ q (List.mem_cons_of_mem _ hq)).mono (Stp.less fun a z => dom_cons.mpr (.inr z)) fun _ e => e⟩
theorem MutR.notin {m : Mu} {p : Addr × MO} {H : Hp} (r : MutR (p :: m) H) : ¬ dom m p.1 := (List.nodup_cons.mp r.nd).1

/-! ### frames -/
abbrev Rho := List (Option D)
inductive RO (M : Addr → Prop) (H : Hp) : Option D → Option V → Prop
  | none (v : Option V) : RO M H none v
  | some {d : D} {v : V} (r : Rep M H d v) : RO M H (some d) (some v)
inductive ROs (M : Addr → Prop) (H : Hp) : Rho → St → Prop
  | nil : ROs M H [] []
  | cons {d : Option D} {v : Option V} {ds : Rho} {vs : St} (r : RO M H d v) (t : ROs M H ds vs) : ROs M H (d :: ds) (v :: vs)
theorem RO.mono {M M' : Addr → Prop} {H H' : Hp} (s : Stp M H M' H') {d : Option D} {v : Option V} : RO M H d v → RO M' H' d v
  | .none v => .none v
  | .some r => .some (r.mono s)
theorem ROs.mono {M M' : Addr → Prop} {H H' : Hp} (s : Stp M H M' H') : ∀ {d : Rho} {v : St}, ROs M H d v → ROs M' H' d v
  | _, _, .nil => .nil
  | _, _, .cons r t => .cons (r.mono s) (ROs.mono s t)
theorem ROs.get {M : Addr → Prop} {H : Hp} : ∀ {d : Rho} {v : St} {i : Nat} {x : D}, ROs M H d v → d[i]? = some (some x) → ∃ y, v[i]? = some (some y) ∧ Rep M H x y
  | _, _, _, _, .nil, e => by simp at e
  | _, _, 0, _, .cons r _, e => by
    simp at e
    subst e
    cases r with
    | some r => exact ⟨_, rfl, r⟩
  | _, _, i + 1, x, .cons _ t, e => by
    obtain ⟨y, h1, h2⟩ := ROs.get (i := i) (x := x) t (by simpa using e)
    exact ⟨y, by simpa using h1, h2⟩
theorem ROs.set {M : Addr → Prop} {H : Hp} {x : Option D} {y : Option V} (q : RO M H x y) : ∀ {d : Rho} {v : St} (i : Nat), ROs M H d v → ROs M H (d.set i x) (v.set i y)
  | _, _, _, .nil => .nil
  | _, _, 0, .cons _ t => .cons q t
  | _, _, i + 1, .cons r t => .cons r (ROs.set q i t)
theorem ROs.start {M : Addr → Prop} {H : Hp} (k : Nat) : ∀ {ds : List D} {vs : List V}, Reps M H ds vs → ROs M H (ds.map some ++ List.replicate k none) (vs.map some ++ List.replicate k none)
  | _, _, .nil => by
    induction k with
    | zero => exact .nil
    | succ k ih => exact .cons (.none _) ih
  | _, _, .cons r t => .cons (.some r) (ROs.start k t)
structure EnvR (r : Rho) (m : Mu) (s : St) (H : Hp) : Prop where
  env : ROs (dom m) H r s
  mu : MutR m H
/-- forgetting what slots hold -/
inductive Le : Rho → Rho → Prop
  | nil : Le [] []
  | keep {d : Option D} {r r' : Rho} (t : Le r r') : Le (d :: r) (d :: r')
  | lose {d : Option D} {r r' : Rho} (t : Le r r') : Le (d :: r) (none :: r')
theorem ROs.le {M : Addr → Prop} {H : Hp} : ∀ {r r' : Rho} {v : St}, Le r r' → ROs M H r v → ROs M H r' v
  | _, _, _, .nil, h => h
  | _, _, _, .keep t, .cons a b => .cons a (ROs.le t b)
  | _, _, _, .lose t, .cons _ b => .cons (.none _) (ROs.le t b)

/-! ### exceptions -/
structure Ex where
  C : Addr
  ns : List Str
  ds : List D
def RepX (M : Addr → Prop) (H : Hp) (x : Ex) (cls : Value) (dd : Option Addr) : Prop :=
  cls = .ref x.C ∧ ((dd = none ∧ x.ns = [] ∧ x.ds = []) ∨ ∃ d gs, dd = some d ∧ H d = some (.xd gs) ∧ ¬ M d ∧ RepF M H x.ns x.ds gs)
theorem RepX.mono {M M' : Addr → Prop} {H H' : Hp} (s : Stp M H M' H') {x : Ex} {cls : Value} {dd : Option Addr} (h : RepX M H x cls dd) : RepX M' H' x cls dd := by
  obtain ⟨e, h⟩ := h
  refine ⟨e, ?_⟩
  rcases h with h | ⟨d, gs, h1, h2, h3, h4⟩
  · exact .inl h
  · exact .inr ⟨d, gs, h1, (s _ _ h2 h3).1, (s _ _ h2 h3).2, h4.mono s⟩

/-! ### what is wanted -/
abbrev KT := D → Mu → Prop
abbrev ET := Ex → Rho → Mu → Prop
def Go (m : Mu) (H : Hp) (K : KT) (Q : VK) : Prop := ∀ d m' v H', Stp (dom m) H (dom m') H' → MutR m' H' → Rep (dom m') H' d v → K d m' → Q v H'
def GoT (m : Mu) (H : Hp) (K : Bool → Mu → Prop) (Q : Bool → Hp → Prop) : Prop := ∀ b m' H', Stp (dom m) H (dom m') H' → MutR m' H' → K b m' → Q b H'
def GoA (m : Mu) (H : Hp) (K : List D → Mu → Prop) (Q : List V → Hp → Prop) : Prop := ∀ ds m' vs H', Stp (dom m) H (dom m') H' → MutR m' H' → Reps (dom m') H' ds vs → K ds m' → Q vs H'
/-- what is wanted of exceptions, at the frame's slots -/
def Rz (W : WX) (E : ET) (m : Mu) (H : Hp) : Prop := ∀ x r' m' cls dd s' H', Stp (dom m) H (dom m') H' → EnvR r' m' s' H' → RepX (dom m') H' x cls dd → E x r' m' → W cls dd s' H'
theorem Rz.step {W : WX} {E : ET} {m m1 : Mu} {H H1 : Hp} (z : Rz W E m H) (s : Stp (dom m) H (dom m1) H1) : Rz W E m1 H1 := fun x r' m' cls dd s' H' a b c e => z x r' m' cls dd s' H' (s.trans a) b c e
theorem Go.step {m m1 : Mu} {H H1 : Hp} {K : KT} {Q : VK} (g : Go m H K Q) (s : Stp (dom m) H (dom m1) H1) : Go m1 H1 K Q := fun d m' v H' a b c e => g d m' v H' (s.trans a) b c e

def We (W : WX) (E : ET) (t : TE) (r : Rho) (m : Mu) (K : KT) : Prop := ∀ s H Q, EnvR r m s H → Rz W E m H → Go m H K Q → t s H Q
def Wt (W : WX) (E : ET) (t : TT) (r : Rho) (m : Mu) (K : Bool → Mu → Prop) : Prop := ∀ s H Q, EnvR r m s H → Rz W E m H → GoT m H K Q → t s H Q
def Wa (W : WX) (E : ET) (t : TA) (r : Rho) (m : Mu) (K : List D → Mu → Prop) : Prop := ∀ s H Q, EnvR r m s H → Rz W E m H → GoA m H K Q → t s H Q
structure DEnds where
  nx : Rho → Mu → Prop
  rt : KT
  bk : Rho → Mu → Prop := fun _ _ => False
  ct : Rho → Mu → Prop := fun _ _ => False
structure GoS (m : Mu) (H : Hp) (P : DEnds) (De : Ends) : Prop where
  nx : ∀ r' m' s' H', Stp (dom m) H (dom m') H' → EnvR r' m' s' H' → P.nx r' m' → De.nx s' H'
  rt : ∀ d m' v H', Stp (dom m) H (dom m') H' → MutR m' H' → Rep (dom m') H' d v → P.rt d m' → De.rt v H'
  bk : ∀ r' m' s' H', Stp (dom m) H (dom m') H' → EnvR r' m' s' H' → P.bk r' m' → De.bk s' H'
  ct : ∀ r' m' s' H', Stp (dom m) H (dom m') H' → EnvR r' m' s' H' → P.ct r' m' → De.ct s' H'
theorem GoS.step {m m1 : Mu} {H H1 : Hp} {P : DEnds} {De : Ends} (g : GoS m H P De) (s : Stp (dom m) H (dom m1) H1) : GoS m1 H1 P De :=
  ⟨fun r' m' s' H' a => g.nx r' m' s' H' (s.trans a), fun d m' v H' a => g.rt d m' v H' (s.trans a), fun r' m' s' H' a => g.bk r' m' s' H' (s.trans a), fun r' m' s' H' a => g.ct r' m' s' H' (s.trans a)⟩
def Ws (W : WX) (E : ET) (t : TS) (r : Rho) (m : Mu) (P : DEnds) : Prop := ∀ s H De, EnvR r m s H → Rz W E m H → GoS m H P De → t De s H

section
variable {W : WX} {E : ET} {r : Rho} {m : Mu} {K : KT} {te ta tb tc : TE} {t u : TT} {a : TA} {P : DEnds} {ts tu : TS}
theorem EnvR.step {s : St} {H H1 : Hp} {m1 : Mu} (e : EnvR r m s H) (st : Stp (dom m) H (dom m1) H1) (mu : MutR m1 H1) : EnvR r m1 s H1 := ⟨e.env.mono st, mu⟩
/-- weaker wants -/
theorem We.imp {K' : KT} (h : We W E te r m K) (k : ∀ d m', K d m' → K' d m') : We W E te r m K' := fun s H Q e z g => h s H Q e z fun d m' v H' a b c x => g d m' v H' a b c (k d m' x)
theorem we_var {i : Nat} {d : D} (h : r[i]? = some (some d)) (k : K d m) : We W E (tVar i) r m K := fun s H Q e z g => by
  obtain ⟨v, h1, h2⟩ := e.env.get h
  exact ⟨v, h1, g d m v H (Stp.refl _ _) e.mu h2 k⟩
theorem we_cint {i : Int} (k : K (.int i) m) : We W E (tC (.int i)) r m K := fun s H Q e z g => g _ m _ H (Stp.refl _ _) e.mu (.int i) k
theorem we_cbl {b : Bool} (k : K (.bl b) m) : We W E (tC (.bl b)) r m K := fun s H Q e z g => g _ m _ H (Stp.refl _ _) e.mu (.bl b) k
theorem we_cnon (k : K .non m) : We W E (tC .non) r m K := fun s H Q e z g => g _ m _ H (Stp.refl _ _) e.mu .non k
theorem we_cstr {x : Str} (k : K (.str x) m) : We W E (tC (.str x)) r m K := fun s H Q e z g => g _ m _ H (Stp.refl _ _) e.mu (.str x) k
theorem we_cty {n : String} (k : K (.ty n) m) : We W E (tC (.ty n)) r m K := fun s H Q e z g => g _ m _ H (Stp.refl _ _) e.mu (.ty n) k
theorem we_cref {p : Addr} (k : K (.ref p) m) : We W E (tC (.ref p)) r m K := fun s H Q e z g => g _ m _ H (Stp.refl _ _) e.mu (.ref p) k

/-- an operation on values, at the frame's slots -/
abbrev O2 := V → V → St → Hp → VK → Prop
abbrev O1 := V → St → Hp → VK → Prop
def W2 (W : WX) (E : ET) (o : O2) (x y : D) (r : Rho) (m : Mu) (K : KT) : Prop := ∀ s H Q v w, EnvR r m s H → Rz W E m H → Rep (dom m) H x v → Rep (dom m) H y w → Go m H K Q → o v w s H Q
def W1 (W : WX) (E : ET) (o : O1) (x : D) (r : Rho) (m : Mu) (K : KT) : Prop := ∀ s H Q v, EnvR r m s H → Rz W E m H → Rep (dom m) H x v → Go m H K Q → o v s H Q
def t2 (o : O2) (ta tb : TE) : TE := fun s H Q => ta s H fun x H1 => tb s H1 fun y H2 => o x y s H2 Q
def t1 (o : O1) (ta : TE) : TE := fun s H Q => ta s H fun x H1 => o x s H1 Q
theorem we_2 {o : O2} (h : We W E ta r m fun x m1 => We W E tb r m1 fun y m2 => W2 W E o x y r m2 K) : We W E (t2 o ta tb) r m K := fun s H Q e z g =>
  h s H _ e z fun x m1 v H1 s1 mu1 r1 h1 => h1 s H1 _ (e.step s1 mu1) (z.step s1) fun y m2 w H2 s2 mu2 r2 h2 =>
    h2 s H2 Q v w ((e.step s1 mu1).step s2 mu2) ((z.step s1).step s2) (r1.mono s2) r2 ((g.step s1).step s2)
theorem we_1 {o : O1} (h : We W E ta r m fun x m1 => W1 W E o x r m1 K) : We W E (t1 o ta) r m K := fun s H Q e z g =>
  h s H _ e z fun x m1 v H1 s1 mu1 r1 h1 => h1 s H1 Q v (e.step s1 mu1) (z.step s1) r1 (g.step s1)

end
end DL
set_option Elab.async false
set_option linter.all false
set_option maxRecDepth 100000
/-! DL2: rules without types (an operation's reading is the union of what it can be), and what they do to values as trees. -/
namespace DL
open PySem PySem.Spec L2
open PyProof.Rows hiding St

/-! ### operations at the frame's slots -/
def OpS (X : Cx) (f : Value → Value → Sem Value) (o : O2) : Prop :=
  ∀ (pins : List (Addr × Obj)) (s : Shared) (σ : L2.St) (H : Hp) (x y : V) (u v : Value) (Q : VK), Inv X pins σ H s → RelV x u → RelV y v → o x y σ H Q → wpAny (model X.prog X.w) X.A (f u v) (EP X pins σ Q) X.xe s
def UnS (X : Cx) (f : Value → Sem Value) (o : O1) : Prop :=
  ∀ (pins : List (Addr × Obj)) (s : Shared) (σ : L2.St) (H : Hp) (x : V) (u : Value) (Q : VK), Inv X pins σ H s → RelV x u → o x σ H Q → wpAny (model X.prog X.w) X.A (f u) (EP X pins σ Q) X.xe s
abbrev OC := List V → L2.St → Hp → VK → Prop
def CallS (X : Cx) (f : Value) (o : OC) : Prop :=
  ∀ (pins : List (Addr × Obj)) (s : Shared) (σ : L2.St) (H : Hp) (xs : List V) (us : List Value) (Q : VK), Inv X pins σ H s → Vals xs us → o xs σ H Q → wpAny (model X.prog X.w) X.A (call f us) (EP X pins σ Q) X.xe s
def tC2 (o : OC) (t : TA) : TE := fun σ H Q => t σ H fun vs H1 => o vs σ H1 Q
section
variable {X : Cx} {op : Operator} {cop cop' : CmpOp} {uop : UnaryOp} {o o' : O2} {o1 o1' : O1} {oc oc' : OC} {a b c e : Expr} {es : List Expr} {ta tb tc : TE} {t : TA} {pos p : Pos} {f : Value → Value → Sem Value} {f1 : Value → Sem Value} {fv : Value} {x : Str} {T id : String}
theorem OpS.of {r : R2} (h : OpR X f r) : OpS X f (fun x y _ H Q => r x y H Q) := fun pins s σ H x y u v Q I ru rv q => h pins s σ H x y u v Q I ru rv q
theorem OpS.or (h : OpS X f o) (h' : OpS X f o') : OpS X f (fun x y s H Q => o x y s H Q ∨ o' x y s H Q) := fun pins s σ H x y u v Q I ru rv q => q.elim (h pins s σ H x y u v Q I ru rv) (h' pins s σ H x y u v Q I ru rv)
theorem UnS.of {r : V → Hp → VK → Prop} (h : UnR X f1 r) : UnS X f1 (fun x _ H Q => r x H Q) := fun pins s σ H x u Q I ru q => h pins s σ H x u Q I ru q
theorem UnS.or (h : UnS X f1 o1) (h' : UnS X f1 o1') : UnS X f1 (fun x s H Q => o1 x s H Q ∨ o1' x s H Q) := fun pins s σ H x u Q I ru q => q.elim (h pins s σ H x u Q I ru) (h' pins s σ H x u Q I ru)
theorem CallS.of {r : List V → Hp → VK → Prop} (h : CallR X fv r) : CallS X fv (fun xs _ H Q => r xs H Q) := fun pins s σ H xs us Q I ru q => h pins s σ H xs us Q I ru q
theorem CallS.or (h : CallS X fv oc) (h' : CallS X fv oc') : CallS X fv (fun xs s H Q => oc xs s H Q ∨ oc' xs s H Q) := fun pins s σ H xs us Q I ru q => q.elim (h pins s σ H xs us Q I ru) (h' pins s σ H xs us Q I ru)
theorem pe_bin (ho : OpS X (binaryOp op) o) (ha : PE X a ta) (hb : PE X b tb) : PE X (.BinOp a op b pos) (t2 o ta tb) :=
  ⟨fun pins s σ H Q I h => wpAny_BinOp (binT ha hb I (R := fun x y H2 => o x y σ H2 Q) h fun v u s2 x y H2 I2 r1 r2 q => ho pins s2 σ H2 x y v u Q I2 r1 r2 q)⟩
theorem pe_una (ho : UnS X (unaryOp uop) o1) (ha : PE X a ta) : PE X (.UnaryOp uop a pos) (t1 o1 ta) :=
  ⟨fun pins s σ H Q I h => UnaryOp_ (thn (ha.run pins s σ H _ I h) fun v s1 ⟨x, H1, I1, r1, q1⟩ => ho pins s1 σ H1 x v Q I1 r1 q1)⟩
theorem pe_cm (ho : OpS X (compareOp cop) o) (ha : PE X a ta) (hb : PE X b tb) (hm : behindInMarks cop b = false) : PE X (.Compare a [cop] [b] pos) (t2 o ta tb) :=
  ⟨fun pins s σ H Q I h => wpAny_Compare1 (binT ha hb I (R := fun x y H2 => o x y σ H2 Q) h fun v u s2 x y H2 I2 rx ry q => ho pins s2 σ H2 x y v u Q I2 rx ry q) hm⟩
theorem pt_cm (ho : OpS X (compareOp cop) o) (ha : PE X a ta) (hb : PE X b tb) (hm : behindInMarks cop b = false) : PT X (.Compare a [cop] [b] pos) (tTest (t2 o ta tb)) := by
  refine ⟨fun pins s σ H Q I h => ?_⟩
  refine wpAny_isTrue_Compare1 (thn (ha.run pins s σ H _ I h) fun v s1 ⟨x, H1, I1, r1, q1⟩ => thn (hb.run pins s1 σ H1 _ I1 q1) fun u s2 ⟨y, H2, I2, r2, q2⟩ =>
    thn (ho pins s2 σ H2 x y v u _ I2 r1 r2 q2) fun c s3 ⟨z, H3, I3, r3, k, e, q3⟩ => ?_) hm
  subst e
  cases r3
  exact wpAny_truthy_bool ⟨H3, I3, q3⟩
/-- a chain of two comparisons -/
def t3 (o o' : O2) (ta tb tc : TE) : TE := fun σ H Q => ta σ H fun x H1 => tb σ H1 fun y H2 => o x y σ H2 fun z H3 => ∃ k, z = .bl k ∧
  (if k = true then tc σ H3 fun w' H4 => o' y w' σ H4 Q else Q (.bl false) H3)
theorem pe_ch (ho : OpS X (compareOp cop) o) (ho' : OpS X (compareOp cop') o') (ha : PE X a ta) (hb : PE X b tb) (hc : PE X c tc)
    (hm : lastMarks [cop, cop'] [b, c] = false := by with_unfolding_all rfl) : PE X (.Compare a [cop, cop'] [b, c] pos) (t3 o o' ta tb tc) := by
  refine ⟨fun pins s σ H Q I h => ?_⟩
  refine Compare_chain (thn (ha.run pins s σ H _ I h) fun v s1 ⟨x, H1, I1, r1, q1⟩ => chain_link (thn (hb.run pins s1 σ H1 _ I1 q1) fun u s2 ⟨y, H2, I2, r2, q2⟩ =>
    thn (ho pins s2 σ H2 x y v u _ I2 r1 r2 q2) fun d s3 ⟨z, H3, I3, r3, k, e, q3⟩ => ?_)) hm
  subst e
  cases r3
  refine wpAny_truthy_bool ?_
  cases k with
  | false => exact ite_ff ⟨.bl false, H3, I3, rfl, q3⟩
  | true => exact ite_tt (chain_last (thn (hc.run pins s3 σ H3 _ I3 q3) fun w' s4 ⟨z', H4, I4, r4, q4⟩ => ho' pins s4 σ H4 y z' u w' Q I4 r2 r4 q4))
theorem pt_ch (ho : OpS X (compareOp cop) o) (ho' : OpS X (compareOp cop') o') (ha : PE X a ta) (hb : PE X b tb) (hc : PE X c tc)
    (hm : lastMarks [cop, cop'] [b, c] = false := by with_unfolding_all rfl) : PT X (.Compare a [cop, cop'] [b, c] pos) (tTest (t3 o o' ta tb tc)) := by
  refine ⟨fun pins s σ H Q I h => ?_⟩
  refine isTrue_chain (thn (ha.run pins s σ H _ I h) fun v s1 ⟨x, H1, I1, r1, q1⟩ => test_link (thn (hb.run pins s1 σ H1 _ I1 q1) fun u s2 ⟨y, H2, I2, r2, q2⟩ =>
    thn (ho pins s2 σ H2 x y v u _ I2 r1 r2 q2) fun d s3 ⟨z, H3, I3, r3, k, e, q3⟩ => ?_)) hm
  subst e
  cases r3
  refine wpAny_truthy_bool ?_
  cases k with
  | false =>
    obtain ⟨k', e', q'⟩ := q3
    cases e'
    exact ite_ff ⟨H3, I3, q'⟩
  | true =>
    refine ite_tt (test_last (thn (hc.run pins s3 σ H3 _ I3 q3) fun w' s4 ⟨z', H4, I4, r4, q4⟩ => thn (ho' pins s4 σ H4 y z' u w' _ I4 r2 r4 q4) fun d' s5 ⟨z2, H5, I5, r5, k2, e2, q5⟩ => ?_))
    subst e2
    cases r5
    exact wpAny_truthy_bool ⟨H5, I5, q5⟩
/-- a value as a test -/
def tTr (K : PySem.W.Frag) (ta : TE) : TT := fun σ H Q => ta σ H fun x H' => ∃ k, TruV K x H' k ∧ Q k H'
theorem pt_tr (ha : PE X a ta) (he : ∀ whole, isTrue a X.env whole = (do let v ← whole; standAt a.pos; holding [v] (truthy v)) := by intro _; rfl) : PT X a (tTr X.K ta) := pt_truth ha he
/-- built-in functions and classes by name -/
theorem pe_cb (hc : CallS X (.builtin id) oc) (hg : Gl X x) (hm : X.mg x = none) (hv : bootBuiltins x = some (.builtin id)) (ha : PA X (e :: es) t) (hn : x ≠ "__name__" := by decide) (hdb : (x == ("__debug__" : Str)) = false := by decide)
    (he : starEach (e :: es) X.env = (false, eval e X.env) :: starEach es X.env := by rfl) (hpl : (backTo pos (starEach es X.env)).any (·.1) = false := by rfl) : PE X (.Call (.Name x p) (e :: es) [] pos) (tC2 oc t) := by
  refine ⟨fun pins s σ H Q I h => ?_⟩
  refine wpAny_Call_Name_kw (ld_blt I hg hm hv ?_ hn hdb)
  exact PyProof.Rows.callWith_builtin1 (thn (ha.run pos pins s σ H _ I h) fun us s1 ⟨vs, H1, I1, r1, q1⟩ => hc pins s1 σ H1 vs us Q I1 r1 q1) he hpl
theorem pe_ct (hc : CallS X (.type T) oc) (hg : Gl X x) (hm : X.mg x = none) (hv : bootBuiltins x = some (.type T)) (ha : PA X (e :: es) t) (hn : x ≠ "__name__" := by decide) (hdb : (x == ("__debug__" : Str)) = false := by decide)
    (he : starEach (e :: es) X.env = (false, eval e X.env) :: starEach es X.env := by rfl) (hpl : (backTo pos (starEach es X.env)).any (·.1) = false := by rfl) : PE X (.Call (.Name x p) (e :: es) [] pos) (tC2 oc t) := by
  refine ⟨fun pins s σ H Q I h => ?_⟩
  refine wpAny_Call_Name_kw (ld_blt I hg hm hv ?_ hn hdb)
  exact PyProof.Rows.callWith_type1 (thn (ha.run pos pins s σ H _ I h) fun us s1 ⟨vs, H1, I1, r1, q1⟩ => hc pins s1 σ H1 vs us Q I1 r1 q1) he hpl
theorem pe_cf (hc : CallS X (.builtin id) oc) (hg : Gl X x) (hm : X.mg x = some (.builtin id)) (ha : PA X (e :: es) t) (hdb : (x == ("__debug__" : Str)) = false := by decide)
    (he : starEach (e :: es) X.env = (false, eval e X.env) :: starEach es X.env := by rfl) (hpl : (backTo pos (starEach es X.env)).any (·.1) = false := by rfl) : PE X (.Call (.Name x p) (e :: es) [] pos) (tC2 oc t) := by
  refine ⟨fun pins s σ H Q I h => ?_⟩
  refine wpAny_Call_Name_kw (ld_glob I hg hm ?_ hdb)
  exact PyProof.Rows.callWith_builtin1 (thn (ha.run pos pins s σ H _ I h) fun us s1 ⟨vs, H1, I1, r1, q1⟩ => hc pins s1 σ H1 vs us Q I1 r1 q1) he hpl
end
end DL
set_option Elab.async false
set_option linter.all false
set_option maxRecDepth 100000
/-! DL3: promises over trees; defs, methods, classes called; bodies. -/
namespace DL
open PySem PySem.Spec L2
open PyProof.Rows hiding St

/-- a promise over trees: the arguments, what lies mutable, what is wanted of the answer, of an exception -/
abbrev SpecD := List D → Mu → KT → (Ex → Mu → Prop) → Prop
def GoX (m : Mu) (H : Hp) (E : Ex → Mu → Prop) (F : XK) : Prop := ∀ x m' cls dd H', Stp (dom m) H (dom m') H' → MutR m' H' → RepX (dom m') H' x cls dd → E x m' → F cls dd H'
def spD (n : Nat) (S : SpecD) : Sp := fun vs H Q F => ∃ ds m K E, ds.length = n ∧ Reps (dom m) H ds vs ∧ MutR m H ∧ S ds m K E ∧ Go m H K Q ∧ GoX m H E F
/-- the world of a law: its program, what the top has written -/
structure Gx where
  P : Program
  w : World
  K : PySem.W.Frag
  mg : Str → Option Value
  base : Heap
abbrev Gx.of (X : Cx) : Gx := ⟨X.prog, X.w, X.K, X.mg, X.base⟩
/-- constants handed in as defaults -/
def ofD : D → V
  | .int i => .int i
  | .bl b => .bl b
  | .str x => .str x
  | .ref a => .ref a
  | .ty n => .ty n
  | _ => .non
def isC : D → Bool
  | .int _ => true
  | .bl _ => true
  | .str _ => true
  | .ref _ => true
  | .ty _ => true
  | .non => true
  | _ => false
theorem rep_c {M : Addr → Prop} {H : Hp} : ∀ {d : D}, isC d = true → Rep M H d (ofD d)
  | .non, _ => .non
  | .bl b, _ => .bl b
  | .int i, _ => .int i
  | .str x, _ => .str x
  | .ty n, _ => .ty n
  | .ref a, _ => .ref a
  | .tup _, h => by cases h
  | .lst _, h => by cases h
  | .dic _, h => by cases h
  | .ins _ _ _, h => by cases h
  | .exc _ _ _ _ _, h => by cases h
theorem reps_c {M : Addr → Prop} {H : Hp} : ∀ {ds : List D}, ds.all isC = true → Reps M H ds (ds.map ofD)
  | [], _ => .nil
  | d :: ds, h => by
    rw [List.all_cons, Bool.and_eq_true] at h
    exact .cons (rep_c h.1) (reps_c h.2)
/-- a def that stands at f: n parameters, defaults dd -/
structure Fnx (G : Gx) (k : Nat) (f : Addr) (n : Nat) (S : SpecD) (dd : List D) : Prop where
  ex : ∃ (fd : FuncData) (ps : List Str) (ds : List Value), FnOk G.P G.w G.K G.mg G.base (L2N.CX G.P G.w) k f fd ps (spD n S) ∧ Binds G.K fd ps ds ∧ Vals (dd.map ofD) ds
  cs : dd.all isC = true
structure Cal (G : Gx) (k : Nat) (x : Str) (n : Nat) (S : SpecD) (dd : List D) : Prop where
  ex : ∃ f, Fnx G k f n S dd ∧ G.mg x = some (.ref f) ∧ PySem.W.keepIn G.K (.ref f) = true
/-- a method mt of the class at C, whose instances have the fields ns -/
structure Met (G : Gx) (k : Nat) (C : Addr) (ns : List Str) (mt : Str) (n : Nat) (S : SpecD) (dd : List D) : Prop where
  ex : ∃ f, Fnx G k f n S dd ∧ Meth G.K C mt f
  cl : Cls G.K C
  no : ns.contains mt = false
structure Mak (G : Gx) (k : Nat) (x : Str) (C : Addr) (n : Nat) (S : SpecD) (dd : List D) : Prop where
  ex : ∃ f, Fnx G k f n S dd ∧ Mk G.K C f
  mgC : G.mg x = some (.ref C)

section
variable {X : Cx} {W : WX} {E : ET} {r : Rho} {m : Mu} {K : KT} {S : SpecD} {x mt : Str} {k j n : Nat} {dd : List D} {e o : Expr} {es : List Expr} {t : TA} {to : TE} {p pos apos : Pos} {C : Addr} {ns : List Str}

/-! ### a def by its name -/
def tCl (n : Nat) (S : SpecD) (dd : List D) (W : WX) (t : TA) : TE := tCallSD (spD n S) (dd.map ofD) (WE W) t
theorem pe_cl (c : Cal (Gx.of X) k x n S dd) (hr : Room j X.A) (hk : k ≤ j) (tk : L2N.Takes X W) (hg : Gl X x) (ha : PA X (e :: es) t)
    (hdb : (x == ("__debug__" : Str)) = false := by decide) (he : starEach (e :: es) X.env = (false, eval e X.env) :: starEach es X.env := by rfl) (hpl : (backTo pos (starEach es X.env)).any (·.1) = false := by rfl) :
    PE X (.Call (.Name x p) (e :: es) [] pos) (tCl n S dd W t) := by
  obtain ⟨f, ⟨⟨fd, ps, ds, F, b, d⟩, cs⟩, hm, kp⟩ := c.ex
  exact pe_callSD F (hr.mono hk) hg hm kp b d (L2N.passAt tk) ha hdb he hpl
theorem spD_of {ds : List D} {vs : List V} {m1 : Mu} {H1 : Hp} {Q : VK} {s : L2.St} {F : Ex → Mu → Prop} (hn : ds.length = n) (e : EnvR r m1 s H1) (z : Rz W E m1 H1) (g : Go m1 H1 K Q) (rs : Reps (dom m1) H1 ds vs)
    (h : S ds m1 K F) (hF : ∀ x m', F x m' → E x r m') : spD n S vs H1 Q (WE W s) :=
  ⟨ds, m1, K, F, hn, rs, e.mu, h, g, fun x m' cls dd H' a b c q => z x r m' cls dd s H' a (e.step a b) c (hF x m' q)⟩
theorem we_cl (cs : dd.all isC = true) (h : Wa W E t r m fun ds m1 => (ds ++ dd).length = n ∧ S (ds ++ dd) m1 K fun x m' => E x r m') : We W E (tCl n S dd W t) r m K := fun s H Q e z g =>
  h s H _ e z fun ds m1 vs H1 st mu rs q => spD_of q.1 (e.step st mu) (z.step st) (g.step st) (rs.append (reps_c cs)) q.2 fun _ _ q => q

/-! ### a method of an instance -/
def tMt (G : Gx) (j : Nat) (W : WX) (mt : Str) (to : TE) (t : TA) : TE := fun σ H Q => to σ H fun x H1 => ∃ (a C dx : Addr) (fs : List (Str × V)) (k n : Nat) (ns : List Str) (S : SpecD) (dd : List D), x = .ref a ∧ H1 a = some (.ins C dx fs) ∧ fs.lookup mt = none ∧ k ≤ j ∧ Met G k C ns mt n S dd ∧
  t σ H1 fun vs H2 => spD n S (x :: (vs ++ dd.map ofD)) H2 Q (WE W σ)
theorem pe_mth {pl : Sem Bool} (hr : Room j X.A) (tk : L2N.Takes X W) (he : PE X o to) (ha : PA X (e :: es) t)
    (hst : starEach (e :: es) X.env = (false, eval e X.env) :: starEach es X.env := by rfl) (hpl : (backTo pos (starEach es X.env)).any (·.1) = false := by rfl)
    (ht : eval (.Call (.Attribute o mt apos) (e :: es) [] pos) X.env = (do
      let ov ← eval o X.env
      standAt apos.atName
      let (f, first) ← holding [ov] (getMethod ov mt pl)
      callWith pos f first (backTo pos (starEach (e :: es) X.env)) (backToKw pos (keywordEach [] X.env))) := by rfl) :
    PE X (.Call (.Attribute o mt apos) (e :: es) [] pos) (tMt (Gx.of X) j W mt to t) := by
  refine ⟨fun pins s σ H Q I h => ?_⟩
  refine PySem.W.methodCall_KW (pl := pl) (thn (he.run pins s σ H _ I h) fun u s1 ⟨x, H1, I1, rx, a, C, dx, fs, k, n, ns, S, dd, ex, ea, l, hk, M, q⟩ => ?_) ht
  subst ex
  obtain rfl : u = Value.ref a := rx
  obtain ⟨f, ⟨⟨fd, ps, ds, F, b, d⟩, cs⟩, hm⟩ := M.ex
  refine getmeth_ok I1 ea M.cl hm l ?_
  refine PySem.W.callWith_K (first := [.ref a]) (h₀ := X.base) I.ok.mod.kin hm.kp (thn (ha.run pos pins s1 σ H1 _ I1 q) fun us s2 ⟨vs, H2, I2, rr, q2⟩ => ⟨I2.kIn, ?_⟩) hst hpl
  exact run_fnSD (E := WE W) (us := .ref a :: us) (vs := .ref a :: vs) F (hr.mono hk) b d (L2N.passAt tk σ) I2 (.cons rfl rr) q2
theorem pe_mth0 {pl : Sem Bool} (hr : Room j X.A) (tk : L2N.Takes X W) (he : PE X o to)
    (ht : eval (.Call (.Attribute o mt apos) [] [] pos) X.env = (do
      let ov ← eval o X.env
      standAt apos.atName
      let (f, first) ← holding [ov] (getMethod ov mt pl)
      callWith pos f first (backTo pos (starEach [] X.env)) (backToKw pos (keywordEach [] X.env))) := by rfl) :
    PE X (.Call (.Attribute o mt apos) [] [] pos) (tMt (Gx.of X) j W mt to tNil) := by
  refine ⟨fun pins s σ H Q I h => ?_⟩
  refine PySem.W.methodCall_KW (pl := pl) (thn (he.run pins s σ H _ I h) fun u s1 ⟨x, H1, I1, rx, a, C, dx, fs, k, n, ns, S, dd, ex, ea, l, hk, M, q⟩ => ?_) ht
  subst ex
  obtain rfl : u = Value.ref a := rx
  obtain ⟨f, ⟨⟨fd, ps, ds, F, b, d⟩, cs⟩, hm⟩ := M.ex
  refine getmeth_ok I1 ea M.cl hm l ?_
  exact PySem.W.callWith_K0 (first := [.ref a]) I1.kIn hm.kp (run_fnSD (E := WE W) (us := [.ref a]) (vs := [.ref a]) F (hr.mono hk) b d (L2N.passAt tk σ) I1 (.cons rfl .nil) q)
/-- the instance that a tree is -/
inductive InsD : D → Mu → Addr → List Str → Prop
  | fixed {m : Mu} {C : Addr} {ns : List Str} {ds : List D} : InsD (.ins C ns ds) m C ns
  | mutb {m : Mu} {C a : Addr} {ns : List Str} {ds : List D} (h : At m a (.ins C ns ds)) : InsD (.ref a) m C ns
theorem InsD.look {d : D} {m : Mu} {C : Addr} {ns : List Str} {H : Hp} {v : V} (i : InsD d m C ns) (mu : MutR m H) (rp : Rep (dom m) H d v) : ∃ a dx gs ds, v = .ref a ∧ H a = some (.ins C dx gs) ∧ RepF (dom m) H ns ds gs := by
  cases i with
  | fixed =>
    cases rp with
    | ins mm h rf => exact ⟨_, _, _, _, rfl, h, rf⟩
  | mutb h =>
    cases rp
    have q := h.rep mu
    cases q with
    | ins h rf => exact ⟨_, _, _, _, rfl, h, rf⟩
theorem we_mt {G : Gx} (h : We W E to r m fun d m1 => ∃ (k n : Nat) (C : Addr) (ns : List Str) (S : SpecD) (dd : List D), Met G k C ns mt n S dd ∧ dd.all isC = true ∧ k ≤ j ∧ InsD d m1 C ns ∧
    Wa W E t r m1 fun ds m2 => (d :: (ds ++ dd)).length = n ∧ S (d :: (ds ++ dd)) m2 K fun x m' => E x r m') : We W E (tMt G j W mt to t) r m K := fun s H Q e z g =>
  h s H _ e z fun d m1 v H1 st mu rd q => by
    obtain ⟨k, n, C, ns, S, dd, M, cs, hk, i, q⟩ := q
    obtain ⟨a, dx, gs, ds', rfl, ha, rf⟩ := i.look mu rd
    refine ⟨a, C, dx, gs, k, n, ns, S, dd, rfl, ha, rf.no M.no, hk, M, ?_⟩
    refine q s H1 _ (e.step st mu) (z.step st) fun ds m2 vs H2 st2 mu2 rs q2 => ?_
    exact spD_of q2.1 ((e.step st mu).step st2 mu2) ((z.step st).step st2) ((g.step st).step st2) (.cons (rd.mono st2) (rs.append (reps_c cs))) q2.2 fun _ _ q => q

/-! ### a class by its name -/
theorem run_makeS {CX : CXT} {k : Nat} {C f : Addr} {fd : FuncData} {ps : List Str} {sp : Sp} {ds : List Value} {dvs : List V} {E : L2.St → XK} {pins : List (Addr × Obj)} {σ : L2.St} {H : Hp} {s : Shared} {Q : VK} {us : List Value} {vs : List V} (M : Mk X.K C f) (F : FnOk X.prog X.w X.K X.mg X.base CX k f fd ps sp) (hr : Room (k + 1) X.A) (hb : Binds X.K fd ps ds) (hd : Vals dvs ds)
    (hx : PassesAt CX X σ (E σ)) (I : Inv X pins σ H s) (r : Vals vs us)
    (h : ∀ x dx, H x = none → H dx = none → dx ≠ x → sp (.ref x :: (vs ++ dvs)) (upd (upd H dx (.own x)) x (.ins C dx [])) (fun v H2 => v = .non ∧ Q (.ref x) H2) (E σ)) :
    wpAny (model X.prog X.w) X.A (call (.ref C) us) (EP X pins σ Q) X.xe s := by
  have hq := h (s.heap.objs.size + 1) s.heap.objs.size (I.hok.fresh (Nat.le_succ _)) (I.hok.fresh (Nat.le_refl _)) (Nat.ne_of_lt (Nat.lt_succ_self _))
  have I2 := Inv.made (C := C) I
  have r2 : Vals (V.ref (s.heap.objs.size + 1) :: (vs ++ dvs)) (Value.ref (s.heap.objs.size + 1) :: (us ++ ds)) := .cons rfl (r.append hd)
  have hl : (Value.ref (s.heap.objs.size + 1) :: us ++ ds).length = ps.length := by
    have e := r2.length
    rw [F.len _ _ _ _ hq] at e
    exact e.symm
  refine wpAny_call (make_map (f := f) I.kIn M.makes M.init (beq_iff_eq.mp M.fn) (codeAny_mono (F.run _ X.stack _ _ ⟨Value.ref (s.heap.objs.size + 1) :: us, []⟩ (Value.ref (s.heap.objs.size + 1) :: (us ++ ds)) _ _ (E σ) (hr.make C us [])
    (I2.env0.make C us []) (hb _ (Value.ref (s.heap.objs.size + 1) :: us) I2.kIn hl) r2 hq) fun r s' hq' => ?_))
  cases r with
  | error e => exact hx pins _ _ e s' I2 hq'
  | ok fl =>
    cases fl with
    | ret u =>
      obtain ⟨v, H', I3, rv, ev, q3⟩ := I2.after hq'
      subst ev
      exact ⟨rv, ⟨V.ref (s.heap.objs.size + 1), H', I3, rfl, q3⟩⟩
    | next => exact False.elim hq'
    | brk => exact False.elim hq'
    | cont => exact False.elim hq'
def tMk (C : Addr) (n : Nat) (S : SpecD) (dd : List D) (W : WX) (t : TA) : TE := fun σ H Q => t σ H fun vs H1 => ∀ x dx, H1 x = none → H1 dx = none → dx ≠ x →
  spD n S (.ref x :: (vs ++ dd.map ofD)) (upd (upd H1 dx (.own x)) x (.ins C dx [])) (fun v H2 => v = .non ∧ Q (.ref x) H2) (WE W σ)
theorem pe_mak (c : Mak (Gx.of X) k x C n S dd) (hr : Room j X.A) (hk : k + 1 ≤ j) (tk : L2N.Takes X W) (hg : Gl X x) (ha : PA X (e :: es) t)
    (hdb : (x == ("__debug__" : Str)) = false := by decide) (he : starEach (e :: es) X.env = (false, eval e X.env) :: starEach es X.env := by rfl) (hpl : (backTo pos (starEach es X.env)).any (·.1) = false := by rfl) :
    PE X (.Call (.Name x p) (e :: es) [] pos) (tMk C n S dd W t) := by
  obtain ⟨f, ⟨⟨fd, ps, ds, F, b, d⟩, cs⟩, M⟩ := c.ex
  refine ⟨fun pins s σ H Q I h => ?_⟩
  refine wpAny_Call_Name_kw (ld_glob I hg c.mgC ?_ hdb)
  refine PySem.W.callWith_K (h₀ := X.base) I.ok.mod.kin M.kp (thn (ha.run pos pins s σ H _ I h) fun us s1 ⟨vs, H1, I1, r, q⟩ => ⟨I1.kIn, ?_⟩) he hpl
  exact run_makeS (E := WE W) M F (hr.mono hk) b d (L2N.passAt tk σ) I1 r q
theorem pe_mak0 (c : Mak (Gx.of X) k x C n S dd) (hr : Room j X.A) (hk : k + 1 ≤ j) (tk : L2N.Takes X W) (hg : Gl X x) (hdb : (x == ("__debug__" : Str)) = false := by decide) :
    PE X (.Call (.Name x p) [] [] pos) (tMk C n S dd W tNil) := by
  obtain ⟨f, ⟨⟨fd, ps, ds, F, b, d⟩, cs⟩, M⟩ := c.ex
  refine ⟨fun pins s σ H Q I h => ?_⟩
  refine wpAny_Call_Name_kw (ld_glob I hg c.mgC ?_ hdb)
  exact PySem.W.callWith_K0 I.kIn M.kp (run_makeS (E := WE W) (us := []) M F (hr.mono hk) b d (L2N.passAt tk σ) I .nil h)
/-- a new instance that stays as __init__ leaves it -/
theorem we_mk (cs : dd.all isC = true) (h : Wa W E t r m fun ds m1 => (ds ++ dd).length + 1 = n ∧ ∀ x, ¬ dom m1 x →
    S (.ref x :: (ds ++ dd)) ((x, .ins C [] []) :: m1) (fun d m2 => ∃ ns fs, d = .non ∧ m2 = (x, .ins C ns fs) :: m1 ∧ K (.ins C ns fs) m1) fun ex m2 => ∃ o, m2 = (x, o) :: m1 ∧ E ex r m1) : We W E (tMk C n S dd W t) r m K := fun s H Q e z g =>
  h s H _ e z fun ds m1 vs H1 st mu rs q x dx hx hdx hne => by
    have hn1 : upd H1 dx (.own x) x = none := by rw [upd_ne (Ne.symm hne)]; exact hx
    have s1 : Stp (dom m1) H1 (dom m1) (upd H1 dx (.own x)) := Stp.new hdx
    have mu1 : MutR m1 (upd H1 dx (.own x)) := mu.new hdx
    have s2 : Stp (dom m1) (upd H1 dx (.own x)) (dom ((x, .ins C [] []) :: m1)) (upd (upd H1 dx (.own x)) x (.ins C dx [])) := Stp.newM hn1
    have mu2 : MutR ((x, .ins C [] []) :: m1) (upd (upd H1 dx (.own x)) x (.ins C dx [])) := mu1.newM hn1 (.ins upd_same .nil)
    have nd : ¬ dom m1 x := mu2.notin
    refine ⟨.ref x :: (ds ++ dd), _, _, _, by rw [List.length_cons]; exact q.1, .cons (.ref x) ((rs.append (reps_c cs)).mono (s1.trans s2)), mu2, q.2 x nd, ?_, ?_⟩
    · rintro d m' v H' a b c ⟨ns, fs, rfl, rfl, k⟩
      cases c
      refine ⟨rfl, ?_⟩
      have at1 := (At.head (m := m1) (p := x) (o := .ins C ns fs)).rep b
      have ls : Stp (dom ((x, MO.ins C ns fs) :: m1)) H' (dom m1) H' := Stp.less fun a z => dom_cons.mpr (.inr z)
      cases at1 with
      | ins hh rf => exact g _ m1 _ H' (st.trans ((s1.trans s2).trans (a.trans ls))) b.drop (.ins nd hh (rf.mono ls)) k
    · rintro ex m' cls dd' H' a b c ⟨o, rfl, k⟩
      have ls : Stp (dom ((x, o) :: m1)) H' (dom m1) H' := Stp.less fun a z => dom_cons.mpr (.inr z)
      have tot := st.trans ((s1.trans s2).trans (a.trans ls))
      exact z ex r m1 cls dd' s H' tot (e.step tot b.drop) (c.mono ls) k
end

/-! ### bodies -/
abbrev cxG (G : Gx) (N : List Str) (qual : Str) (st : Stmt) (f : Addr) (cdv : Value) (A : Around) (outer : List Env) (s : Shared) (H : Hp) (F : XK) : Cx := cxOf (L2N.CX G.P G.w) G.P G.w G.K G.mg G.base N qual (defScope st) f cdv A outer s H F
abbrev wF (F : XK) : WX := fun cls d _ H => F cls d H
abbrev eF (E : Ex → Mu → Prop) : ET := fun x _ m => E x m
abbrev pF (K : KT) : DEnds := { nx := fun _ m => K .non m, rt := K }
/-- a promise is kept by the body of the def -/
abbrev FunW (K : PySem.W.Frag) (x qual : Str) (st : Stmt) (dvs : List V) (f : Addr) (fd : FuncData) : Prop := FunD K x qual (defArgs st) (defBody st) (defScope st) dvs [] f fd
theorem funW_of {K : PySem.W.Frag} {x qual : Str} {st : Stmt} {f : Addr} {fd : FuncData} (F : L2.Fun K x qual st f fd) : FunW K x qual st [] f fd := by
  have kp := F.kp
  obtain ⟨oc, od, kV, doc, pm, an, cdv, ct, osl, rfl, lk, hcd⟩ := F.ex
  exact ⟨⟨oc, od, _, kV, doc, pm, an, cdv, ct, osl, rfl, lk, hcd, .inl ⟨rfl, rfl⟩, .inl rfl⟩, kp⟩
theorem fnok_ofD {G : Gx} {xn qual : Str} {st : Stmt} {f : Addr} {fd : FuncData} {N ps : List Str} {k n : Nat} {S : SpecD} {dvs : List V} (F : FunW G.K xn qual st dvs f fd) (Sc : FnScope N ps (defScope st)) (hn : ps.length = n)
    (h : ∀ (cdv : Value) (A : Around) (outer : List Env) (s : Shared) (H : Hp) (F : XK), Room k (cxG G N qual st f cdv A outer s H F).A → L2N.Takes (cxG G N qual st f cdv A outer s H F) (wF F) →
      ∃ t, PSs (cxG G N qual st f cdv A outer s H F) (defBody st) t ∧ ∀ ds m K E, ds.length = n → S ds m K E → Ws (wF F) (eF E) t (ds.map some ++ List.replicate (N.length - n) none) m (pF K)) : FnOk G.P G.w G.K G.mg G.base (L2N.CX G.P G.w) (k + 1) f fd ps (spD n S) := by
  obtain ⟨oc, od, dV, kV, doc, pm, an, cdv, ct, osl, rfl, lk, hcd, _, _⟩ := F.ex
  refine fn_of lk hcd Sc (fun vs H Q E q => ?_) (fun A outer s H vs Q E hr q => ?_)
  · obtain ⟨ds, m, K, E, h1, h2, _⟩ := q
    rw [← h2.length, h1, hn]
  · obtain ⟨ds, m, K, E', h1, h2, mu, hs, g, gx⟩ := q
    obtain ⟨t, ht, hw⟩ := h cdv A outer s H E hr (L2N.takes_of rfl rfl rfl rfl)
    refine ⟨t, ht, hw ds m K E' h1 hs _ H _ ⟨?_, mu⟩ ?_ ?_⟩
    · have e : vs.length = n := by rw [← h2.length, h1]
      unfold L2.start
      rw [e]
      exact ROs.start _ h2
    · intro x r' m' cls dd s' H' a b c q
      exact gx x m' cls dd H' a b.mu c q
    · exact ⟨fun r' m' s' H' a b q => g _ m' _ H' a b.mu .non q, fun d m' v H' a b c q => g d m' v H' a b c q, fun _ _ _ _ _ _ q => q, fun _ _ _ _ _ _ q => q⟩
theorem fnok_of {G : Gx} {xn qual : Str} {st : Stmt} {f : Addr} {fd : FuncData} {N ps : List Str} {k n : Nat} {S : SpecD} (F : L2.Fun G.K xn qual st f fd) (Sc : FnScope N ps (defScope st)) (hn : ps.length = n)
    (h : ∀ (cdv : Value) (A : Around) (outer : List Env) (s : Shared) (H : Hp) (F : XK), Room k (cxG G N qual st f cdv A outer s H F).A → L2N.Takes (cxG G N qual st f cdv A outer s H F) (wF F) →
      ∃ t, PSs (cxG G N qual st f cdv A outer s H F) (defBody st) t ∧ ∀ ds m K E, ds.length = n → S ds m K E → Ws (wF F) (eF E) t (ds.map some ++ List.replicate (N.length - n) none) m (pF K)) : FnOk G.P G.w G.K G.mg G.base (L2N.CX G.P G.w) (k + 1) f fd ps (spD n S) := fnok_ofD (funW_of F) Sc hn h
theorem fnx_ofD {G : Gx} {xn qual : Str} {st : Stmt} {f : Addr} {fd : FuncData} {N ps : List Str} {k n : Nat} {S : SpecD} {dvs : List V} {dd : List D} {ds : List Value} (F : FunW G.K xn qual st dvs f fd) (Sc : FnScope N ps (defScope st)) (hn : ps.length = n)
    (b : Binds G.K fd ps ds) (d : Vals (dd.map ofD) ds) (cs : dd.all isC = true)
    (h : ∀ (cdv : Value) (A : Around) (outer : List Env) (s : Shared) (H : Hp) (F : XK), Room k (cxG G N qual st f cdv A outer s H F).A → L2N.Takes (cxG G N qual st f cdv A outer s H F) (wF F) →
      ∃ t, PSs (cxG G N qual st f cdv A outer s H F) (defBody st) t ∧ ∀ ds m K E, ds.length = n → S ds m K E → Ws (wF F) (eF E) t (ds.map some ++ List.replicate (N.length - n) none) m (pF K)) : Fnx G (k + 1) f n S dd := ⟨⟨_, ps, ds, fnok_ofD F Sc hn h, b, d⟩, cs⟩
theorem fnx_of {G : Gx} {xn qual : Str} {st : Stmt} {f : Addr} {fd : FuncData} {N ps : List Str} {k n : Nat} {S : SpecD} {dd : List D} {ds : List Value} (F : L2.Fun G.K xn qual st f fd) (Sc : FnScope N ps (defScope st)) (hn : ps.length = n)
    (b : Binds G.K fd ps ds) (d : Vals (dd.map ofD) ds) (cs : dd.all isC = true)
    (h : ∀ (cdv : Value) (A : Around) (outer : List Env) (s : Shared) (H : Hp) (F : XK), Room k (cxG G N qual st f cdv A outer s H F).A → L2N.Takes (cxG G N qual st f cdv A outer s H F) (wF F) →
      ∃ t, PSs (cxG G N qual st f cdv A outer s H F) (defBody st) t ∧ ∀ ds m K E, ds.length = n → S ds m K E → Ws (wF F) (eF E) t (ds.map some ++ List.replicate (N.length - n) none) m (pF K)) : Fnx G (k + 1) f n S dd := fnx_ofD (funW_of F) Sc hn b d cs h
/-! ### defs called within an except suite: nothing is raised -/
structure CalH (G : Gx) (k : Nat) (x : Str) (n : Nat) (S : SpecD) : Prop where
  ex : ∃ (f : Addr) (fd : FuncData) (ps : List Str), L2H.FnH G.P G.w G.K G.mg G.base (L2N.CX G.P G.w) k f fd ps (spD n S) ∧ Binds G.K fd ps [] ∧ G.mg x = some (.ref f) ∧ PySem.W.keepIn G.K (.ref f) = true
abbrev cxGH (G : Gx) (N : List Str) (qual : Str) (st : Stmt) (f : Addr) (cdv : Value) (A : Around) (outer : List Env) (s : Shared) (H : Hp) (F : XK) (p : Addr × Obj) : Cx := L2H.cxH (L2N.CX G.P G.w) G.P G.w G.K G.mg G.base N qual (defScope st) f cdv A outer s H F p
theorem calH_of {G : Gx} {x : Str} {st : Stmt} {f : Addr} {fd : FuncData} {N ps : List Str} {k n : Nat} {S : SpecD} (F : L2.Fun G.K x x st f fd) (hm : G.mg x = some (.ref f)) (Sc : FnScope N ps (defScope st)) (hn : ps.length = n)
    (b : Binds G.K fd ps [])
    (h : ∀ (cdv : Value) (A : Around) (outer : List Env) (s : Shared) (H : Hp) (F : XK) (p : Addr × Obj), L2H.Hot1 A p → L2H.RoomH k (cxGH G N x st f cdv A outer s H F p).A → L2N.Takes (cxGH G N x st f cdv A outer s H F p) (wF F) →
      ∃ t, PSs (cxGH G N x st f cdv A outer s H F p) (defBody st) t ∧ ∀ ds m K E, ds.length = n → S ds m K E → Ws (wF F) (eF E) t (ds.map some ++ List.replicate (N.length - n) none) m (pF K)) : CalH G (k + 1) x n S := by
  have kp := F.kp
  obtain ⟨oc, od, kV, doc, pm, an, cdv, ct, osl, rfl, lk, hcd⟩ := F.ex
  refine ⟨f, _, ps, L2H.fn_ofH lk hcd Sc (fun vs H Q E q => ?_) (fun A outer s H vs Q E p hot hr q => ?_), b, hm, kp⟩
  · obtain ⟨ds, m, K, E, h1, h2, _⟩ := q
    rw [← h2.length, h1, hn]
  · obtain ⟨ds, m, K, E', h1, h2, mu, hs, g, gx⟩ := q
    obtain ⟨t, ht, hw⟩ := h cdv A outer s H E p hot hr (L2N.takes_of rfl rfl rfl rfl)
    refine ⟨t, ht, hw ds m K E' h1 hs _ H _ ⟨?_, mu⟩ ?_ ?_⟩
    · have e : vs.length = n := by rw [← h2.length, h1]
      unfold L2.start
      rw [e]
      exact ROs.start _ h2
    · intro x r' m' cls dd s' H' a b c q
      exact gx x m' cls dd H' a b.mu c q
    · exact ⟨fun r' m' s' H' a b q => g _ m' _ H' a b.mu .non q, fun d m' v H' a b c q => g d m' v H' a b c q, fun _ _ _ _ _ _ q => q, fun _ _ _ _ _ _ q => q⟩
section
variable {X : Cx} {W : WX} {E : ET} {r : Rho} {m : Mu} {K : KT} {S : SpecD} {x : Str} {k j n : Nat} {e : Expr} {es : List Expr} {t : TA} {p pos : Pos}
def tClH (n : Nat) (S : SpecD) (W : WX) (t : TA) : TE := tCallS (spD n S) (WE W) t
theorem pe_clH (c : CalH (Gx.of X) k x n S) (hr : L2H.RoomH j X.A) (hk : k ≤ j) (hc : L2H.HotC X) (tk : L2N.Takes X W) (hg : Gl X x) (ha : PA X (e :: es) t)
    (hdb : (x == ("__debug__" : Str)) = false := by decide) (he : starEach (e :: es) X.env = (false, eval e X.env) :: starEach es X.env := by rfl) (hpl : (backTo pos (starEach es X.env)).any (·.1) = false := by rfl) :
    PE X (.Call (.Name x p) (e :: es) [] pos) (tClH n S W t) := by
  obtain ⟨f, fd, ps, F, b, hm, kp⟩ := c.ex
  exact L2H.pe_callH F (hr.mono hk) hc hg hm kp b (L2N.passAt tk) ha hdb he hpl
theorem we_clH (h : Wa W E t r m fun ds m1 => ds.length = n ∧ S ds m1 K fun x m' => E x r m') : We W E (tClH n S W t) r m K := fun s H Q e z g =>
  h s H _ e z fun ds m1 vs H1 st mu rs q => spD_of q.1 (e.step st mu) (z.step st) (g.step st) rs q.2 fun _ _ q => q
end
end DL
set_option Elab.async false
set_option linter.all false
set_option maxRecDepth 100000
/-! DL4: operators. -/
namespace DL
open PySem PySem.Spec L2
open PyProof.Rows hiding St

/-! ### an own class's operator -/
/-- the class at C takes the special method nm: n values, the promise S -/
structure Opr (G : Gx) (k : Nat) (C : Addr) (nm : Str) (n : Nat) (S : SpecD) : Prop where
  ex : ∃ f, Fnx G k f n S [] ∧ PySem.W.findIn G.K (.ref C) nm = some (some (.ref f)) ∧ PySem.W.isFn G.K (.ref f) = true
  cl : Cls G.K C
  sf : PySem.W.selfFirst G.K C = true
theorem back_of {X : Cx} {pins : List (Addr × Obj)} {σ : L2.St} {Q : VK} {u : Value} {s : Shared} (h : EP X pins σ Q u s) : PySem.W.CmpBack (EP X pins σ Q) u s := by
  obtain ⟨v, H, I, r, q⟩ := id h
  cases u <;> first | exact h | (cases v <;> first | (obtain ⟨t, e⟩ := r; cases e) | cases r)
section
variable {X : Cx} {W : WX} {j : Nat}
def oOwn2 (G : Gx) (j : Nat) (W : WX) (nm : Str) : O2 := fun x y σ H Q => ∃ (a b C dx dy : Addr) (fs gs : List (Str × V)) (k : Nat) (S : SpecD), x = .ref a ∧ y = .ref b ∧ H a = some (.ins C dx fs) ∧ H b = some (.ins C dy gs) ∧ k ≤ j ∧ Opr G k C nm 2 S ∧ spD 2 S [x, y] H Q (WE W σ)
theorem inst_of {pins : List (Addr × Obj)} {σ : L2.St} {H : Hp} {s : Shared} {a C dx : Addr} {fs : List (Str × V)} (I : Inv X pins σ H s) (e : H a = some (.ins C dx fs)) : ∃ od, PySem.W.InstAt s.heap a (PySem.W.instObj C dx) C od := by
  obtain ⟨mA, O, _⟩ := ins_get I.hok e
  obtain ⟨od, J, _⟩ := O.look
  exact ⟨_, J⟩
theorem os_own2 (hr : Room j X.A) (tk : L2N.Takes X W) {op : Operator} : OpS X (binaryOp op) (oOwn2 (Gx.of X) j W (PySem.dunder op.info.2)) := by
  intro pins s σ H x y u v Q I rx ry h
  obtain ⟨a, b, C, dx, dy, fs, gs, k, S, rfl, rfl, ha, hb, hk, O, q⟩ := h
  obtain rfl : u = Value.ref a := rx
  obtain rfl : v = Value.ref b := ry
  obtain ⟨f, ⟨⟨fd, ps, ds, F, bd, d⟩, cs⟩, h1, h2⟩ := O.ex
  obtain ⟨od, J⟩ := inst_of I ha
  obtain ⟨od', J'⟩ := inst_of I hb
  obtain ⟨m, fr⟩ := I.fr
  refine PySem.W.binop_K fr I.ok.mod.kin J J'.type O.sf h1 h2 ?_
  refine wpAny_mono (run_fnSD (E := WE W) (us := [.ref a, .ref b]) (vs := [.ref a, .ref b]) F (hr.mono hk) bd d (L2N.passAt tk σ) I (.cons rfl (.cons rfl .nil)) q) (fun r s' hq => back_of hq) fun _ _ z => z
def oOwn1 (G : Gx) (j : Nat) (W : WX) (nm : Str) : O1 := fun x σ H Q => ∃ (a C dx : Addr) (fs : List (Str × V)) (k : Nat) (S : SpecD), x = .ref a ∧ H a = some (.ins C dx fs) ∧ k ≤ j ∧ Opr G k C nm 1 S ∧ spD 1 S [x] H Q (WE W σ)
theorem us_own (hr : Room j X.A) (tk : L2N.Takes X W) : UnS X (unaryOp .USub) (oOwn1 (Gx.of X) j W "__neg__") := by
  intro pins s σ H x u Q I rx h
  obtain ⟨a, C, dx, fs, k, S, rfl, ha, hk, O, q⟩ := h
  obtain rfl : u = Value.ref a := rx
  obtain ⟨f, ⟨⟨fd, ps, ds, F, bd, d⟩, cs⟩, h1, h2⟩ := O.ex
  obtain ⟨od, J⟩ := inst_of I ha
  obtain ⟨m, fr⟩ := I.fr
  exact PySem.W.ksp_neg fr I.ok.mod.kin J h1 h2 (run_fnSD (E := WE W) (us := [.ref a]) (vs := [.ref a]) F (hr.mono hk) bd d (L2N.passAt tk σ) I (.cons rfl .nil) q)

/-! ### the operators as unions -/
def CDivX (i j : Int) : Prop := j ≠ 0 ∧ (j.natAbs.log2 < 9000 ∨ i.natAbs.log2 ≤ j.natAbs.log2 + 4000)
theorem CDivX.no {i j : Int} (h : CDivX i j) : Builtin.divisionGoesByPylong i j = false := by
  rcases h.2 with q | q
  · exact PyProof.noPylong_of_log2 q
  · have e : (j == 0) = false := by simpa using h.1
    have key : (if i == 0 then 0 else i.natAbs.log2 / 30 + 1) ≤ (if j == 0 then 0 else j.natAbs.log2 / 30 + 1) + 150 := by
      rw [e]
      by_cases hi : (i == 0) = true
      · rw [if_pos hi]
        exact Nat.zero_le _
      · rw [if_neg hi]
        show i.natAbs.log2 / 30 + 1 ≤ j.natAbs.log2 / 30 + 1 + 150
        omega
    show (_ && decide (_ > _)) = false
    rw [decide_eq_false (Nat.not_lt.mpr key), Bool.and_false]
theorem op_fdivX : OpR X (binaryOp .FloorDiv) (rI CDivX fun i j => .int (i.fdiv j)) := opI fun i j _ _ _ _ _ hc q => PyProof.Rows.floordiv_int hc.1 q (.inl hc.no)
def CMulX (i j : Int) : Prop := i.natAbs.log2 + j.natAbs.log2 < 100000000
theorem CMulX.ok {i j : Int} (h : CMulX i j) : IntMulOk i j := by
  have b : ∀ x : Int, Builtin.Int.intBits x ≤ x.natAbs.log2 + 1 := fun x => by
    unfold Builtin.Int.intBits
    split <;> omega
  have h1 := b i
  have h2 := b j
  have h3 : i.natAbs.log2 + j.natAbs.log2 < 100000000 := h
  have e : bitsLine = 134217728 := by decide
  unfold IntMulOk
  intro z
  rw [Bool.and_eq_true] at z
  have z2 := z.2
  unfold Builtin.Int.intTooBig at z2
  have z3 := of_decide_eq_true z2
  rw [e] at z3
  omega
theorem op_mulX : OpR X (binaryOp .Mult) (rI CMulX fun i j => .int (i * j)) := opI fun _ _ _ _ _ _ _ hc q => PyProof.Rows.mul_int q hc.ok
def rStrAdd : R2 := fun x y H Q => ∃ i j, x = .str i ∧ y = .str j ∧ i.length + j.length ≤ sizeLine ∧ Q (.str (i ++ j)) H
/-- two lists joined -/
def rCatR : R2 := fun x y H Q => ∃ l b xs zs, x = .ref l ∧ y = .ref b ∧ Rd H l (.lst xs) ∧ Rd H b (.lst zs) ∧ xs.length + zs.length ≤ sizeLine ∧ ∀ p, H p = none → Q (.ref p) (upd H p (.lst (xs ++ zs)))
theorem op_catR : OpR X (binaryOp .Add) rCatR := by
  intro pins s σ H x y v u Q I rx ry h
  obtain ⟨l, b, xs, zs, rfl, rfl, hH, hB, hz, q⟩ := h
  cases rx
  cases ry
  obtain ⟨z, its, n, r, e⟩ := hH.ok I.hok
  obtain ⟨z2, its2, n2, r2, e2⟩ := hB.ok I.hok
  have hl := r.length
  have hl2 := r2.length
  refine PySem.P.add_list e e2 ?_ (by rw [List.size_toArray, List.size_toArray]; omega)
  have ea : its.toArray ++ its2.toArray = (its ++ its2).toArray := by simp
  rw [ea]
  exact ⟨.ref _, _, I.lnew (t' := s.toks) (r.append r2) (by rw [List.length_append]; omega), rfl, q _ I.fresh⟩
def oAdd (G : Gx) (j : Nat) (W : WX) : O2 := fun x y s H Q => rI0 (fun i j => .int (i + j)) x y H Q ∨ (rStrAdd x y H Q ∨ (rCatR x y H Q ∨ (rCatT G.K x y H Q ∨ oOwn2 G j W "__add__" x y s H Q)))
theorem os_add (hr : Room j X.A) (tk : L2N.Takes X W) : OpS X (binaryOp .Add) (oAdd (Gx.of X) j W) := (OpS.of op_add).or ((OpS.of op_add_str).or ((OpS.of op_catR).or ((OpS.of op_catT).or (os_own2 hr tk))))
def oSub (G : Gx) (j : Nat) (W : WX) : O2 := fun x y s H Q => rI0 (fun i j => .int (i - j)) x y H Q ∨ oOwn2 G j W "__sub__" x y s H Q
theorem os_sub (hr : Room j X.A) (tk : L2N.Takes X W) : OpS X (binaryOp .Sub) (oSub (Gx.of X) j W) := (OpS.of op_sub).or (os_own2 hr tk)
def oMul (G : Gx) (j : Nat) (W : WX) : O2 := fun x y s H Q => rI CMulX (fun i j => .int (i * j)) x y H Q ∨ (rRep x y H Q ∨ oOwn2 G j W "__mul__" x y s H Q)
theorem os_mul (hr : Room j X.A) (tk : L2N.Takes X W) : OpS X (binaryOp .Mult) (oMul (Gx.of X) j W) := (OpS.of op_mulX).or ((OpS.of op_rep).or (os_own2 hr tk))
def oFdiv : O2 := fun x y _ H Q => rI CDivX (fun i j => .int (i.fdiv j)) x y H Q
theorem os_fdiv : OpS X (binaryOp .FloorDiv) oFdiv := OpS.of op_fdivX
def oMod : O2 := fun x y _ H Q => rI (fun _ j => j ≠ 0) (fun i j => .int (i.fmod j)) x y H Q
theorem os_mod : OpS X (binaryOp .Mod) oMod := OpS.of op_modN
def oPow : O2 := fun x y _ H Q => rI CPow (fun i j => .int (i ^ j.toNat)) x y H Q
theorem os_pow : OpS X (binaryOp .Pow) oPow := OpS.of op_pow
def oNeg (G : Gx) (j : Nat) (W : WX) : O1 := fun x s H Q => rU (fun i => .int (-i)) x H Q ∨ oOwn1 G j W "__neg__" x s H Q
theorem us_neg (hr : Room j X.A) (tk : L2N.Takes X W) : UnS X (unaryOp .USub) (oNeg (Gx.of X) j W) := (UnS.of un_neg).or (us_own hr tk)
/-! comparisons -/
def oLt : O2 := fun x y _ H Q => rI0 (fun i j => .bl (decide (i < j))) x y H Q
def oLe : O2 := fun x y _ H Q => rI0 (fun i j => .bl (decide (i ≤ j))) x y H Q
def oGt : O2 := fun x y _ H Q => rI0 (fun i j => .bl (decide (j < i))) x y H Q
def oGe : O2 := fun x y _ H Q => rI0 (fun i j => .bl (decide (j ≤ i))) x y H Q
theorem os_lt : OpS X (compareOp .Lt) oLt := OpS.of op_lt
theorem os_le : OpS X (compareOp .LtE) oLe := OpS.of op_le
theorem os_gt : OpS X (compareOp .Gt) oGt := OpS.of op_gt
theorem os_ge : OpS X (compareOp .GtE) oGe := OpS.of op_ge
def rIsN' : R2 := fun x y H Q => y = .non ∧ Q (.bl (decide (x = .non))) H
def rNotN' : R2 := fun x y H Q => y = .non ∧ Q (.bl (!decide (x = .non))) H
def oIs : O2 := fun x y _ H Q => rIsN' x y H Q ∨ rIsB x y H Q
def oIsNot : O2 := fun x y _ H Q => rNotN' x y H Q ∨ rNotB x y H Q
theorem os_is : OpS X (compareOp .Is) oIs := OpS.or (OpS.of op_isN) (OpS.of op_isBl)
theorem os_isnot : OpS X (compareOp .IsNot) oIsNot := OpS.or (OpS.of op_notN) (OpS.of op_notBl)
def oEq (G : Gx) (j : Nat) (W : WX) : O2 := fun x y _ H Q => rEq x y H Q
def oNe (G : Gx) (j : Nat) (W : WX) : O2 := fun x y _ H Q => rNe x y H Q
theorem os_eq (hr : Room j X.A) (tk : L2N.Takes X W) : OpS X (compareOp .Eq) (oEq (Gx.of X) j W) := OpS.of op_eq
theorem os_ne (hr : Room j X.A) (tk : L2N.Takes X W) : OpS X (compareOp .NotEq) (oNe (Gx.of X) j W) := OpS.of op_ne
/-! .. within an except suite: numbers, texts alone -/
def oEqH : O2 := fun x y _ H Q => rEq x y H Q
def oNeH : O2 := fun x y _ H Q => rNe x y H Q
theorem os_eqH : OpS X (compareOp .Eq) oEqH := OpS.of op_eq
theorem os_neH : OpS X (compareOp .NotEq) oNeH := OpS.of op_ne
def oMulH : O2 := fun x y _ H Q => rI CMulX (fun i j => .int (i * j)) x y H Q
theorem os_mulH : OpS X (binaryOp .Mult) oMulH := OpS.of op_mulX
def oAddH : O2 := fun x y _ H Q => rI0 (fun i j => .int (i + j)) x y H Q
theorem os_addH : OpS X (binaryOp .Add) oAddH := OpS.of op_add
def oSubH : O2 := fun x y _ H Q => rI0 (fun i j => .int (i - j)) x y H Q
theorem os_subH : OpS X (binaryOp .Sub) oSubH := OpS.of op_sub
def oNegH : O1 := fun x _ H Q => rU (fun i => .int (-i)) x H Q
theorem us_negH : UnS X (unaryOp .USub) oNegH := UnS.of un_neg
end

/-! ### what they do to trees -/
section
variable {W : WX} {E : ET} {r : Rho} {m : Mu} {K : KT} {G : Gx} {j : Nat} {i k : Int} {te ta tb tc : TE} {t : TA} {o o' : O2} {o1 : O1} {oc : OC}
theorem w2_val {o : O2} {x y d : D} {vx vy v : V} (hx : ∀ M H w, Rep M H x w → w = vx) (hy : ∀ M H w, Rep M H y w → w = vy) (hd : ∀ M H, Rep M H d v) (ho : ∀ s H (Q : VK), Q v H → o vx vy s H Q) (k : K d m) : W2 W E o x y r m K := fun s H Q a b e z ra rb g => by
  rw [hx _ _ _ ra, hy _ _ _ rb]
  exact ho s H Q (g d m v H (Stp.refl _ _) e.mu (hd _ _) k)
theorem rint {M : Addr → Prop} {H : Hp} {i : Int} {w : V} (h : Rep M H (.int i) w) : w = .int i := by cases h; rfl
theorem rstr {M : Addr → Prop} {H : Hp} {i : Str} {w : V} (h : Rep M H (.str i) w) : w = .str i := by cases h; rfl
theorem rbl {M : Addr → Prop} {H : Hp} {i : Bool} {w : V} (h : Rep M H (.bl i) w) : w = .bl i := by cases h; rfl
theorem rnon {M : Addr → Prop} {H : Hp} {w : V} (h : Rep M H .non w) : w = .non := by cases h; rfl
theorem w2_add (h : K (.int (i + k)) m) : W2 W E (oAdd G j W) (.int i) (.int k) r m K := w2_val (fun _ _ _ => rint) (fun _ _ _ => rint) (fun _ _ => .int _) (fun _ _ _ q => .inl ⟨i, k, rfl, rfl, q⟩) h
theorem w2_sub (h : K (.int (i - k)) m) : W2 W E (oSub G j W) (.int i) (.int k) r m K := w2_val (fun _ _ _ => rint) (fun _ _ _ => rint) (fun _ _ => .int _) (fun _ _ _ q => .inl ⟨i, k, rfl, rfl, q⟩) h
theorem w2_mul (h : CMulX i k ∧ K (.int (i * k)) m) : W2 W E (oMul G j W) (.int i) (.int k) r m K := w2_val (fun _ _ _ => rint) (fun _ _ _ => rint) (fun _ _ => .int _) (fun _ _ _ q => .inl ⟨i, k, rfl, rfl, h.1, q⟩) h.2
theorem w2_fdiv (h : CDivX i k ∧ K (.int (i.fdiv k)) m) : W2 W E oFdiv (.int i) (.int k) r m K := w2_val (fun _ _ _ => rint) (fun _ _ _ => rint) (fun _ _ => .int _) (fun _ _ _ q => ⟨i, k, rfl, rfl, h.1, q⟩) h.2
theorem w2_mod (h : k ≠ 0 ∧ K (.int (i.fmod k)) m) : W2 W E oMod (.int i) (.int k) r m K := w2_val (fun _ _ _ => rint) (fun _ _ _ => rint) (fun _ _ => .int _) (fun _ _ _ q => ⟨i, k, rfl, rfl, h.1, q⟩) h.2
theorem w2_pow (h : CPow i k ∧ K (.int (i ^ k.toNat)) m) : W2 W E oPow (.int i) (.int k) r m K := w2_val (fun _ _ _ => rint) (fun _ _ _ => rint) (fun _ _ => .int _) (fun _ _ _ q => ⟨i, k, rfl, rfl, h.1, q⟩) h.2
theorem w2_lt (h : K (.bl (decide (i < k))) m) : W2 W E oLt (.int i) (.int k) r m K := w2_val (fun _ _ _ => rint) (fun _ _ _ => rint) (fun _ _ => .bl _) (fun _ _ _ q => ⟨i, k, rfl, rfl, q⟩) h
theorem w2_le (h : K (.bl (decide (i ≤ k))) m) : W2 W E oLe (.int i) (.int k) r m K := w2_val (fun _ _ _ => rint) (fun _ _ _ => rint) (fun _ _ => .bl _) (fun _ _ _ q => ⟨i, k, rfl, rfl, q⟩) h
theorem w2_gt (h : K (.bl (decide (k < i))) m) : W2 W E oGt (.int i) (.int k) r m K := w2_val (fun _ _ _ => rint) (fun _ _ _ => rint) (fun _ _ => .bl _) (fun _ _ _ q => ⟨i, k, rfl, rfl, q⟩) h
theorem w2_ge (h : K (.bl (decide (k ≤ i))) m) : W2 W E oGe (.int i) (.int k) r m K := w2_val (fun _ _ _ => rint) (fun _ _ _ => rint) (fun _ _ => .bl _) (fun _ _ _ q => ⟨i, k, rfl, rfl, q⟩) h
theorem w2_eqI (h : K (.bl (decide (i = k))) m) : W2 W E (oEq G j W) (.int i) (.int k) r m K := w2_val (fun _ _ _ => rint) (fun _ _ _ => rint) (fun _ _ => .bl _) (fun _ _ _ q => ⟨rfl, by rw [dec_int, ← Bool.beq_eq_decide_eq] at *; exact q⟩) h
theorem w2_neI (h : K (.bl (!decide (i = k))) m) : W2 W E (oNe G j W) (.int i) (.int k) r m K := w2_val (fun _ _ _ => rint) (fun _ _ _ => rint) (fun _ _ => .bl _) (fun _ _ _ q => ⟨rfl, by rw [dec_int, ← Bool.beq_eq_decide_eq] at *; exact q⟩) h
theorem w2_eqIH (h : K (.bl (decide (i = k))) m) : W2 W E oEqH (.int i) (.int k) r m K := w2_val (fun _ _ _ => rint) (fun _ _ _ => rint) (fun _ _ => .bl _) (fun _ _ _ q => ⟨rfl, by rw [dec_int, ← Bool.beq_eq_decide_eq] at *; exact q⟩) h
theorem w2_neIH (h : K (.bl (!decide (i = k))) m) : W2 W E oNeH (.int i) (.int k) r m K := w2_val (fun _ _ _ => rint) (fun _ _ _ => rint) (fun _ _ => .bl _) (fun _ _ _ q => ⟨rfl, by rw [dec_int, ← Bool.beq_eq_decide_eq] at *; exact q⟩) h
theorem w2_mulH (h : CMulX i k ∧ K (.int (i * k)) m) : W2 W E oMulH (.int i) (.int k) r m K := w2_val (fun _ _ _ => rint) (fun _ _ _ => rint) (fun _ _ => .int _) (fun _ _ _ q => ⟨i, k, rfl, rfl, h.1, q⟩) h.2
theorem w2_addH (h : K (.int (i + k)) m) : W2 W E oAddH (.int i) (.int k) r m K := w2_val (fun _ _ _ => rint) (fun _ _ _ => rint) (fun _ _ => .int _) (fun _ _ _ q => ⟨i, k, rfl, rfl, q⟩) h
theorem w2_subH (h : K (.int (i - k)) m) : W2 W E oSubH (.int i) (.int k) r m K := w2_val (fun _ _ _ => rint) (fun _ _ _ => rint) (fun _ _ => .int _) (fun _ _ _ q => ⟨i, k, rfl, rfl, q⟩) h
theorem w1_negH (h : K (.int (-i)) m) : W1 W E oNegH (.int i) r m K := fun s H Q v e z rv g => by
  cases rv
  exact ⟨i, rfl, g _ m _ H (Stp.refl _ _) e.mu (.int _) h⟩
def isNon : D → Bool
  | .non => true
  | _ => false
theorem rep_non {M : Addr → Prop} {H : Hp} {d : D} {v : V} (h : Rep M H d v) : decide (v = V.non) = isNon d := by
  cases h <;> rfl
theorem w2_isN {d : D} (h : K (.bl (isNon d)) m) : W2 W E oIs d .non r m K := fun s H Q a b e z ra rb g => by
  cases rb
  exact .inl ⟨rfl, g _ m _ H (Stp.refl _ _) e.mu (by rw [rep_non ra]; exact .bl _) h⟩
theorem w2_notN {d : D} (h : K (.bl (!isNon d)) m) : W2 W E oIsNot d .non r m K := fun s H Q a b e z ra rb g => by
  cases rb
  exact .inl ⟨rfl, g _ m _ H (Stp.refl _ _) e.mu (by rw [rep_non ra]; exact .bl _) h⟩
theorem w2_isB {a b : Bool} (h : K (.bl (decide (a = b))) m) : W2 W E oIs (.bl a) (.bl b) r m K := w2_val (fun _ _ _ => rbl) (fun _ _ _ => rbl) (fun _ _ => .bl _) (fun _ _ _ q => .inr ⟨a, b, rfl, rfl, q⟩) h
theorem w2_notB {a b : Bool} (h : K (.bl (!decide (a = b))) m) : W2 W E oIsNot (.bl a) (.bl b) r m K := w2_val (fun _ _ _ => rbl) (fun _ _ _ => rbl) (fun _ _ => .bl _) (fun _ _ _ q => .inr ⟨a, b, rfl, rfl, q⟩) h
theorem w1_neg (h : K (.int (-i)) m) : W1 W E (oNeg G j W) (.int i) r m K := fun s H Q v e z rv g => by
  cases rv
  exact .inl ⟨i, rfl, g _ m _ H (Stp.refl _ _) e.mu (.int _) h⟩
/-- the fields of an instance, fixed or mutable -/
inductive FldD : D → Mu → Addr → List Str → List D → Prop
  | fixed {m : Mu} {C : Addr} {ns : List Str} {ds : List D} : FldD (.ins C ns ds) m C ns ds
  | mutb {m : Mu} {C a : Addr} {ns : List Str} {ds : List D} (h : At m a (.ins C ns ds)) : FldD (.ref a) m C ns ds
theorem FldD.look {d : D} {m : Mu} {C : Addr} {ns : List Str} {ds : List D} {H : Hp} {v : V} (i : FldD d m C ns ds) (mu : MutR m H) (rp : Rep (dom m) H d v) : ∃ a dx gs, v = .ref a ∧ H a = some (.ins C dx gs) ∧ RepF (dom m) H ns ds gs := by
  cases i with
  | fixed =>
    cases rp with
    | ins mm h rf => exact ⟨_, _, _, rfl, h, rf⟩
  | mutb h =>
    cases rp
    have q := h.rep mu
    cases q with
    | ins h rf => exact ⟨_, _, _, rfl, h, rf⟩
theorem w2_own {d d' : D} {C : Addr} {ns ns' : List Str} {ds ds' : List D} {nm : Str} {k : Nat} {S : SpecD} (O : Opr G k C nm 2 S) (hk : k ≤ j) (i : FldD d m C ns ds) (i' : FldD d' m C ns' ds')
    (h : S [d, d'] m K fun x m' => E x r m') : W2 W E (oOwn2 G j W nm) d d' r m K := fun s H Q a b e z ra rb g => by
  obtain ⟨p, dx, gs, rfl, hp, _⟩ := i.look e.mu ra
  obtain ⟨p', dx', gs', rfl, hp', _⟩ := i'.look e.mu rb
  exact ⟨p, p', C, dx, dx', gs, gs', k, S, rfl, rfl, hp, hp', hk, O, spD_of rfl e z g (.cons ra (.cons rb .nil)) h fun _ _ q => q⟩
theorem w1_own {d : D} {C : Addr} {ns : List Str} {ds : List D} {nm : Str} {k : Nat} {S : SpecD} (O : Opr G k C nm 1 S) (hk : k ≤ j) (i : FldD d m C ns ds)
    (h : S [d] m K fun x m' => E x r m') : W1 W E (oOwn1 G j W nm) d r m K := fun s H Q a e z ra g => by
  obtain ⟨p, dx, gs, rfl, hp, _⟩ := i.look e.mu ra
  exact ⟨p, C, dx, gs, k, S, rfl, hp, hk, O, spD_of rfl e z g (.cons ra .nil) h fun _ _ q => q⟩
end
end DL
set_option Elab.async false
set_option linter.all false
set_option maxRecDepth 100000
/-! DL5: expressions, tests, statements, loops over trees. -/
namespace DL
open PySem PySem.Spec L2
open PyProof.Rows hiding St

section
variable {W : WX} {E : ET} {r : Rho} {m : Mu} {K : KT} {G : Gx} {j : Nat} {te ta tb tc : TE} {t u : TT} {a : TA} {o o' : O2} {o1 : O1} {oc : OC} {KB : Bool → Mu → Prop} {KA : List D → Mu → Prop}
/-! ### arguments, displays -/
theorem wa_nil (h : KA [] m) : Wa W E tNil r m KA := fun s H Q e z g => g [] m [] H (Stp.refl _ _) e.mu .nil h
theorem wa_cons (h : We W E te r m fun d m1 => Wa W E a r m1 fun ds m2 => KA (d :: ds) m2) : Wa W E (tCons te a) r m KA := fun s H Q e z g =>
  h s H _ e z fun d m1 v H1 s1 mu1 r1 q1 => q1 s H1 _ (e.step s1 mu1) (z.step s1) fun ds m2 vs H2 s2 mu2 r2 q2 => g _ m2 _ H2 (s1.trans s2) mu2 (.cons (r1.mono s2) r2) q2
theorem size_of {n : Nat} (h : Nat.ble n 1000 = true) : n ≤ sizeLine := Nat.le_trans (Nat.le_of_ble_eq_true h) (by decide)
theorem we_tup (h : Wa W E a r m fun ds m1 => Nat.ble ds.length 1000 = true ∧ K (.tup ds) m1) : We W E (tTup a) r m K := fun s H Q e z g =>
  h s H _ e z fun ds m1 vs H1 s1 mu1 r1 q1 => ⟨by rw [← r1.length]; exact size_of q1.1, fun p hp =>
    g _ m1 _ _ (s1.trans (Stp.new hp)) (mu1.new hp) (.tup (fun z => by obtain ⟨u, hu⟩ := mu1.there z; rw [hp] at hu; cases hu) (.inl upd_same) (r1.mono (Stp.new hp))) q1.2⟩
theorem we_lst (h : Wa W E a r m fun ds m1 => Nat.ble ds.length 1000 = true ∧ K (.lst ds) m1) : We W E (tLst a) r m K := fun s H Q e z g =>
  h s H _ e z fun ds m1 vs H1 s1 mu1 r1 q1 => ⟨by rw [← r1.length]; exact size_of q1.1, fun p hp =>
    g _ m1 _ _ (s1.trans (Stp.new hp)) (mu1.new hp) (.lst (fun z => by obtain ⟨u, hu⟩ := mu1.there z; rw [hp] at hu; cases hu) (.inl upd_same) (r1.mono (Stp.new hp))) q1.2⟩
/-- a list that will be changed -/
theorem we_lstM (h : Wa W E a r m fun ds m1 => Nat.ble ds.length 1000 = true ∧ ∀ p, ¬ dom m1 p → K (.ref p) ((p, .lst ds) :: m1)) : We W E (tLst a) r m K := fun s H Q e z g =>
  h s H _ e z fun ds m1 vs H1 s1 mu1 r1 q1 => ⟨by rw [← r1.length]; exact size_of q1.1, fun p hp =>
    g _ _ _ _ (s1.trans (Stp.newM (x := .lst ds) hp)) (mu1.newM hp (.lst upd_same (r1.mono (Stp.newM hp)))) (.ref p) (q1.2 p fun z => by obtain ⟨u, hu⟩ := mu1.there z; rw [hp] at hu; cases hu)⟩

/-! ### fields -/
theorem we_fld {f : Str} (h : We W E te r m fun d m1 => ∃ C ns ds x, FldD d m1 C ns ds ∧ Cls G.K C ∧ NoAttr G.K C f ∧ fix f ns ds = some x ∧ K x m1) : We W E (tFld G.K te f) r m K := fun s H Q e z g =>
  h s H _ e z fun d m1 v H1 s1 mu1 r1 q => by
    obtain ⟨C, ns, ds, x, i, c, n, hf, k⟩ := q
    obtain ⟨p, dx, gs, rfl, hp, rf⟩ := i.look mu1 r1
    obtain ⟨y, h1, h2⟩ := rf.look hf
    exact ⟨p, C, dx, gs, y, rfl, hp, c, n, h1, g x m1 y H1 s1 mu1 h2 k⟩

/-! ### subscripts -/
theorem atI_reps {M : Addr → Prop} {H : Hp} {ds : List D} {vs : List V} {i : Int} {d : D} (h : Reps M H ds vs) (e : atI ds i = some d) : ∃ v, atI vs i = some v ∧ Rep M H d v := by
  unfold atI at *
  rw [h.length] at e
  cases q : ixN vs.length i with
  | none => rw [q] at e; cases e
  | some k =>
    rw [q] at e
    exact h.get e
abbrev oIx (G : Gx) : O2 := fun x y _ H Q => rIx G.K x y H Q
theorem rd_l {K : PySem.W.Frag} {H : Hp} {a : Addr} {vs : List V} (h : Rd H a (.lst vs)) : SqL K H a vs := .inl h
theorem rd_t {K : PySem.W.Frag} {H : Hp} {a : Addr} {vs : List V} (h : Rd H a (.tup vs)) : SqT K H a vs := .inl h
theorem w2_ixT {ds : List D} {i : Int} {d : D} (h : atI ds i = some d ∧ K d m) : W2 W E (oIx G) (.tup ds) (.int i) r m K := fun s H Q x y e z rx ry g => by
  cases ry
  cases rx with
  | tup mm hh rs =>
    obtain ⟨v, h1, h2⟩ := atI_reps rs h.1
    exact .inr (.inl ⟨_, _, i, v, rfl, rfl, rd_t hh, h1, g d m v H (Stp.refl _ _) e.mu h2 h.2⟩)
theorem w2_ixL {ds : List D} {i : Int} {d : D} (h : atI ds i = some d ∧ K d m) : W2 W E (oIx G) (.lst ds) (.int i) r m K := fun s H Q x y e z rx ry g => by
  cases ry
  cases rx with
  | lst mm hh rs =>
    obtain ⟨v, h1, h2⟩ := atI_reps rs h.1
    exact .inl ⟨_, _, i, v, rfl, rfl, rd_l hh, h1, g d m v H (Stp.refl _ _) e.mu h2 h.2⟩
theorem w2_ixM {p : Addr} {ds : List D} {i : Int} {d : D} (hp : At m p (.lst ds)) (h : atI ds i = some d ∧ K d m) : W2 W E (oIx G) (.ref p) (.int i) r m K := fun s H Q x y e z rx ry g => by
  cases ry
  cases rx
  have q := hp.rep e.mu
  cases q with
  | lst hh rs =>
    obtain ⟨v, h1, h2⟩ := atI_reps rs h.1
    exact .inl ⟨_, _, i, v, rfl, rfl, SqL.of hh, h1, g d m v H (Stp.refl _ _) e.mu h2 h.2⟩
theorem we_op {rr : R2} (h : We W E ta r m fun x m1 => We W E tb r m1 fun y m2 => W2 W E (fun x y _ H Q => rr x y H Q) x y r m2 K) : We W E (tOp rr ta tb) r m K := we_2 h

/-! ### chains, truth -/
theorem we_3 (h : We W E ta r m fun x m1 => We W E tb r m1 fun y m2 => W2 W E o x y r m2 fun d m3 => ∃ b, d = .bl b ∧ (b = true → We W E tc r m3 fun w m4 => W2 W E o' y w r m4 K) ∧ (b = false → K (.bl false) m3)) : We W E (t3 o o' ta tb tc) r m K := fun s H Q e z g =>
  h s H _ e z fun x m1 v H1 s1 mu1 r1 h1 => h1 s H1 _ (e.step s1 mu1) (z.step s1) fun y m2 w H2 s2 mu2 r2 h2 => by
    have e2 := (e.step s1 mu1).step s2 mu2
    have z2 := (z.step s1).step s2
    refine h2 s H2 _ v w e2 z2 (r1.mono s2) r2 fun d m3 c H3 s3 mu3 r3 h3 => ?_
    obtain ⟨b, rfl, ht, hf⟩ := h3
    cases r3
    refine ⟨b, rfl, ?_⟩
    cases b with
    | true =>
      rw [if_pos rfl]
      exact ht rfl s H3 _ (e2.step s3 mu3) (z2.step s3) fun w' m4 cv H4 s4 mu4 r4 h4 =>
        h4 s H4 Q w cv ((e2.step s3 mu3).step s4 mu4) ((z2.step s3).step s4) ((r2.mono s3).mono s4) r4 ((((g.step s1).step s2).step s3).step s4)
    | false =>
      rw [if_neg Bool.false_ne_true]
      exact g _ m3 _ H3 ((s1.trans s2).trans s3) mu3 (.bl _) (hf rfl)
theorem wt_test (h : We W E te r m fun d m1 => ∃ b, d = .bl b ∧ KB b m1) : Wt W E (tTest te) r m KB := fun s H Q e z g =>
  h s H _ e z fun d m1 v H1 s1 mu1 r1 q => by
    obtain ⟨b, rfl, k⟩ := q
    cases r1
    exact ⟨b, rfl, g b m1 H1 s1 mu1 k⟩
theorem wt_B (h : We W E te r m fun d m1 => ∃ b, d = .bl b ∧ KB b m1) : Wt W E (tB te) r m KB := wt_test h
/-- the truth of a tree -/
inductive TruD : D → Mu → Bool → Prop
  | non {m : Mu} : TruD .non m false
  | bl {m : Mu} {b : Bool} : TruD (.bl b) m b
  | int {m : Mu} {i : Int} : TruD (.int i) m (i != 0)
  | tup {m : Mu} {xs : List D} : TruD (.tup xs) m (!xs.isEmpty)
  | lst {m : Mu} {xs : List D} : TruD (.lst xs) m (!xs.isEmpty)
  | mutb {m : Mu} {p : Addr} {xs : List D} (h : At m p (.lst xs)) : TruD (.ref p) m (!xs.isEmpty)
theorem reps_empty {M : Addr → Prop} {H : Hp} {ds : List D} {vs : List V} (h : Reps M H ds vs) : ds.isEmpty = vs.isEmpty := by cases h <;> rfl
theorem TruD.ok {d : D} {b : Bool} {H : Hp} {v : V} (h : TruD d m b) (mu : MutR m H) (rp : Rep (dom m) H d v) : TruV G.K v H b := by
  cases h with
  | non => cases rp; rfl
  | bl => cases rp; rfl
  | int => cases rp; rfl
  | tup =>
    cases rp with
    | tup mm hh rs => exact .inr (.inl ⟨_, rd_t hh, by rw [reps_empty rs]⟩)
  | lst =>
    cases rp with
    | lst mm hh rs => exact .inl ⟨_, rd_l hh, by rw [reps_empty rs]⟩
  | mutb h =>
    cases rp
    have q := h.rep mu
    cases q with
    | lst hh rs => exact .inl ⟨_, SqL.of hh, by rw [reps_empty rs]⟩
theorem wt_tr (h : We W E te r m fun d m1 => ∃ b, TruD d m1 b ∧ KB b m1) : Wt W E (tTr G.K te) r m KB := fun s H Q e z g =>
  h s H _ e z fun d m1 v H1 s1 mu1 r1 q => by
    obtain ⟨b, t, k⟩ := q
    exact ⟨b, t.ok mu1 r1, g b m1 H1 s1 mu1 k⟩
theorem wt_and (h : Wt W E t r m fun b m1 => (b = true → Wt W E u r m1 KB) ∧ (b = false → KB false m1)) : Wt W E (tAnd t u) r m KB := fun s H Q e z g =>
  h s H _ e z fun b m1 H1 s1 mu1 q => by
    cases b with
    | true => exact q.1 rfl s H1 Q (e.step s1 mu1) (z.step s1) fun b m2 H2 a c k => g b m2 H2 (s1.trans a) c k
    | false => exact g false m1 H1 s1 mu1 (q.2 rfl)
theorem wt_or (h : Wt W E t r m fun b m1 => (b = true → KB true m1) ∧ (b = false → Wt W E u r m1 KB)) : Wt W E (tOr t u) r m KB := fun s H Q e z g =>
  h s H _ e z fun b m1 H1 s1 mu1 q => by
    cases b with
    | true => exact g true m1 H1 s1 mu1 (q.1 rfl)
    | false => exact q.2 rfl s H1 Q (e.step s1 mu1) (z.step s1) fun b m2 H2 a c k => g b m2 H2 (s1.trans a) c k
theorem wt_not (h : Wt W E t r m fun b m1 => KB (!b) m1) : Wt W E (tNot t) r m KB := fun s H Q e z g =>
  h s H _ e z fun b m1 H1 s1 mu1 q => g (!b) m1 H1 s1 mu1 q
theorem we_andV (h : We W E ta r m fun d m1 => ∃ b, d = .bl b ∧ (b = true → We W E tb r m1 K) ∧ (b = false → K (.bl false) m1)) : We W E (tAndV ta tb) r m K := fun s H Q e z g =>
  h s H _ e z fun d m1 v H1 s1 mu1 r1 q => by
    obtain ⟨b, rfl, ht, hf⟩ := q
    cases r1
    refine ⟨b, rfl, ?_⟩
    cases b with
    | true =>
      rw [if_pos rfl]
      exact ht rfl s H1 Q (e.step s1 mu1) (z.step s1) (g.step s1)
    | false =>
      rw [if_neg Bool.false_ne_true]
      exact g _ m1 _ H1 s1 mu1 (.bl _) (hf rfl)
theorem we_orV (h : We W E ta r m fun d m1 => ∃ b, d = .bl b ∧ (b = true → K (.bl true) m1) ∧ (b = false → We W E tb r m1 K)) : We W E (tOrV ta tb) r m K := fun s H Q e z g =>
  h s H _ e z fun d m1 v H1 s1 mu1 r1 q => by
    obtain ⟨b, rfl, ht, hf⟩ := q
    cases r1
    refine ⟨b, rfl, ?_⟩
    cases b with
    | false =>
      rw [if_neg Bool.false_ne_true]
      exact hf rfl s H1 Q (e.step s1 mu1) (z.step s1) (g.step s1)
    | true =>
      rw [if_pos rfl]
      exact g _ m1 _ H1 s1 mu1 (.bl _) (ht rfl)
theorem we_notV (h : We W E te r m fun d m1 => ∃ b, d = .bl b ∧ K (.bl (!b)) m1) : We W E (tNotV te) r m K := fun s H Q e z g =>
  h s H _ e z fun d m1 v H1 s1 mu1 r1 q => by
    obtain ⟨b, rfl, k⟩ := q
    cases r1
    exact ⟨b, rfl, g _ m1 _ H1 s1 mu1 (.bl _) k⟩
theorem we_ifx (h : Wt W E t r m fun b m1 => (b = true → We W E ta r m1 K) ∧ (b = false → We W E tb r m1 K)) : We W E (tIf t ta tb) r m K := fun s H Q e z g =>
  h s H _ e z fun b m1 H1 s1 mu1 q => by
    cases b with
    | true => exact q.1 rfl s H1 Q (e.step s1 mu1) (z.step s1) (g.step s1)
    | false => exact q.2 rfl s H1 Q (e.step s1 mu1) (z.step s1) (g.step s1)

/-! ### calls of built-ins -/
def Wc (W : WX) (E : ET) (oc : OC) (ds : List D) (r : Rho) (m : Mu) (K : KT) : Prop := ∀ s H Q vs, EnvR r m s H → Rz W E m H → Reps (dom m) H ds vs → Go m H K Q → oc vs s H Q
theorem we_c2 (h : Wa W E a r m fun ds m1 => Wc W E oc ds r m1 K) : We W E (tC2 oc a) r m K := fun s H Q e z g =>
  h s H _ e z fun ds m1 vs H1 s1 mu1 r1 q => q s H1 Q vs (e.step s1 mu1) (z.step s1) r1 (g.step s1)
end

/-! ### statements -/
section
variable {W : WX} {E : ET} {r : Rho} {m : Mu} {P : DEnds} {G : Gx} {te to : TE} {tt : TT} {ts tu : TS} {i : Nat}
theorem ws_next (h : P.nx r m) : Ws W E tNext r m P := fun s H De e z g => g.nx r m s H (Stp.refl _ _) e h
theorem ws_brk (h : P.bk r m) : Ws W E tBreak r m P := fun s H De e z g => g.bk r m s H (Stp.refl _ _) e h
theorem ws_cont (h : P.ct r m) : Ws W E tCont r m P := fun s H De e z g => g.ct r m s H (Stp.refl _ _) e h
theorem ws_seq (h : Ws W E ts r m { P with nx := fun r' m' => Ws W E tu r' m' P }) : Ws W E (tSeq ts tu) r m P := fun s H De e z g =>
  h s H _ e z ⟨fun r' m' s' H' a b q => q s' H' De b (z.step a) (g.step a), g.rt, g.bk, g.ct⟩
theorem ws_ret (h : We W E te r m P.rt) : Ws W E (tRet te) r m P := fun s H De e z g => h s H _ e z fun d m' v H' a b c k => g.rt d m' v H' a b c k
theorem ws_retN (h : P.rt .non m) : Ws W E tRetN r m P := fun s H De e z g => g.rt .non m .non H (Stp.refl _ _) e.mu .non h
theorem ws_drop (h : We W E te r m fun _ m' => P.nx r m') : Ws W E (tDrop te) r m P := fun s H De e z g => h s H _ e z fun d m' v H' a b c k => g.nx r m' s H' a (e.step a b) k
theorem ws_if (h : Wt W E tt r m fun b m1 => (b = true → Ws W E ts r m1 P) ∧ (b = false → Ws W E tu r m1 P)) : Ws W E (tIfS tt ts tu) r m P := fun s H De e z g =>
  h s H _ e z fun b m1 H1 s1 mu1 q => by
    cases b with
    | true => exact q.1 rfl s H1 De (e.step s1 mu1) (z.step s1) (g.step s1)
    | false => exact q.2 rfl s H1 De (e.step s1 mu1) (z.step s1) (g.step s1)
/-- targets -/
def Wg (W : WX) (E : ET) (g : TG) (d : D) (r : Rho) (m : Mu) (N : Rho → Mu → Prop) : Prop := ∀ s H v Q, EnvR r m s H → Rz W E m H → Rep (dom m) H d v →
  (∀ r' m' s' H', Stp (dom m) H (dom m') H' → EnvR r' m' s' H' → N r' m' → Q s' H') → g v s H Q
def Wgs (W : WX) (E : ET) (g : TGs) (ds : List D) (r : Rho) (m : Mu) (N : Rho → Mu → Prop) : Prop := ∀ s H vs Q, EnvR r m s H → Rz W E m H → Reps (dom m) H ds vs →
  (∀ r' m' s' H', Stp (dom m) H (dom m') H' → EnvR r' m' s' H' → N r' m' → Q s' H') → g vs s H Q
variable {N : Rho → Mu → Prop}
theorem EnvR.put {s : L2.St} {H : Hp} {d : D} {v : V} (e : EnvR r m s H) (rd : Rep (dom m) H d v) : EnvR (r.set i (some d)) m (s.set i (some v)) H := ⟨e.env.set (.some rd) i, e.mu⟩
theorem wg_name {d : D} (h : N (r.set i (some d)) m) : Wg W E (gName i) d r m N := fun s H v Q e z rd g => g _ m _ H (Stp.refl _ _) (e.put rd) h
theorem wgs_nil (h : N r m) : Wgs W E gNil [] r m N := fun s H vs Q e z rd g => by
  cases rd
  exact ⟨rfl, g r m s H (Stp.refl _ _) e h⟩
theorem wgs_cons {g1 : TG} {gs : TGs} {d : D} {ds : List D} (h : Wg W E g1 d r m fun r' m' => Wgs W E gs ds r' m' N) : Wgs W E (gCons g1 gs) (d :: ds) r m N := fun s H vs Q e z rd g => by
  cases rd with
  | cons r1 rt =>
    exact ⟨_, _, rfl, h s H _ _ e z r1 fun r' m' s' H' a b q => q s' H' _ Q b (z.step a) (rt.mono a) fun r2 m2 s2 H2 a2 b2 q2 => g r2 m2 s2 H2 (a.trans a2) b2 q2⟩
theorem wg_tup {gs : TGs} {n : Nat} {ds : List D} (hn : ds.length = n) (h : Wgs W E gs ds r m N) : Wg W E (gTup G.K n gs) (.tup ds) r m N := fun s H v Q e z rd g => by
  cases rd with
  | tup mm hh rs => exact ⟨_, _, rfl, rd_t hh, by rw [← rs.length, hn], h s H _ Q e z rs g⟩
theorem ixN_reps {n k : Nat} {i : Int} (h : ixN n i = some k) : k < n := by
  unfold ixN at h
  split at h
  · split at h
    · cases h; omega
    · cases h
  · split at h
    · cases h; omega
    · cases h
theorem wg_subM {ti : TE} {d : D} (h : We W E to r m fun o m1 => We W E ti r m1 fun i m2 => ∃ p xs k j m3, o = .ref p ∧ i = .int k ∧ At m2 p (.lst xs) ∧ ixN xs.length k = some j ∧ Put m2 p (.lst (xs.set j d)) m3 ∧ N r m3) : Wg W E (gSub to ti rSetL) d r m N := fun s H v Q e z rd g =>
  h s H _ e z fun o m1 vo H1 s1 mu1 r1 q1 => q1 s H1 _ (e.step s1 mu1) (z.step s1) fun i m2 vi H2 s2 mu2 r2 q2 => by
    obtain ⟨p, xs, k, j, m3, rfl, rfl, ha, hj, hp, hn⟩ := q2
    cases r1
    cases r2
    have q := ha.rep mu2
    cases q with
    | lst hh rs =>
      have rd2 := (rd.mono s1).mono s2
      refine ⟨p, _, k, j, rfl, rfl, hh, by rw [← rs.length]; exact hj, ?_⟩
      have st : ∀ o, Stp (dom m2) H2 (dom m3) (upd H2 p o) := fun o => hp.stp
      exact g r m3 s _ ((s1.trans s2).trans (st _)) (((e.step s1 mu1).step s2 mu2).step (st _) (hp.mut mu2 (.lst upd_same ((rs.set rd2 j).mono (st _))))) hn
theorem ws_asg {g : TG} (h : We W E te r m fun d m1 => Wg W E g d r m1 P.nx) : Ws W E (tAsg te g) r m P := fun s H De e z gg =>
  h s H _ e z fun d m1 v H1 s1 mu1 r1 q => q s H1 v De.nx (e.step s1 mu1) (z.step s1) r1 fun r' m' s' H' a b k => gg.nx r' m' s' H' (s1.trans a) b k
theorem ws_par {j : Nat} {a : TA} (h : Wa W E a r m fun ds m1 => ∃ x y, ds = [x, y] ∧ P.nx ((r.set i (some x)).set j (some y)) m1) : Ws W E (tPar i j a) r m P := fun s H De e z g =>
  h s H _ e z fun ds m1 vs H1 s1 mu1 r1 q => by
    obtain ⟨x, y, rfl, k⟩ := q
    cases r1 with
    | cons ra t =>
      cases t with
      | cons rb t =>
        cases t
        exact ⟨_, _, rfl, g.nx _ m1 _ H1 s1 (((e.step s1 mu1).put ra).put rb) k⟩
theorem ws_par3 {j l : Nat} {a : TA} (h : Wa W E a r m fun ds m1 => ∃ x y w, ds = [x, y, w] ∧ P.nx (((r.set i (some x)).set j (some y)).set l (some w)) m1) : Ws W E (tPar3 i j l a) r m P := fun s H De e z g =>
  h s H _ e z fun ds m1 vs H1 s1 mu1 r1 q => by
    obtain ⟨x, y, w, rfl, k⟩ := q
    cases r1 with
    | cons ra t =>
      cases t with
      | cons rb t =>
        cases t with
        | cons rc t =>
          cases t
          exact ⟨_, _, _, rfl, g.nx _ m1 _ H1 s1 ((((e.step s1 mu1).put ra).put rb).put rc) k⟩
/-- self.f = e, a new field -/
theorem putF_new {f : Str} {y : V} : ∀ {fs : List (Str × V)}, f ∉ fs.map (·.1) → putF f y fs = fs ++ [(f, y)]
  | [], _ => rfl
  | (g, v) :: fs, h => by
    have ne : ¬ g = f := fun e => h (by simp [e])
    show (if g = f then _ else _) = _
    rw [if_neg ne, putF_new (fun z => h (by simp [z]))]
    rfl
theorem RepF.snoc {M : Addr → Prop} {H : Hp} {f : Str} {x : D} {y : V} (q : Rep M H x y) : ∀ {n : List Str} {d : List D} {v : List (Str × V)}, RepF M H n d v → RepF M H (n ++ [f]) (d ++ [x]) (v ++ [(f, y)])
  | _, _, _, .nil => .cons q .nil
  | _, _, _, .cons r t => .cons r (RepF.snoc q t)
theorem RepF.lens {M : Addr → Prop} {H : Hp} {n : List Str} {d : List D} {v : List (Str × V)} (h : RepF M H n d v) : v.length = n.length := by rw [← h.names, List.length_map]
theorem ws_fldN {f : Str} (h : We W E te r m fun d m1 => We W E to r m1 fun o m2 => ∃ p C ns ds m3, o = .ref p ∧ At m2 p (.ins C ns ds) ∧ Cls G.K C ∧ NoAttr G.K C f ∧ ns.contains f = false ∧ Nat.ble ns.length 900 = true ∧ Put m2 p (.ins C (ns ++ [f]) (ds ++ [d])) m3 ∧ P.nx r m3) : Ws W E (sFld G.K to te f) r m P := fun s H De e z g =>
  h s H _ e z fun d m1 v H1 s1 mu1 r1 q1 => q1 s H1 _ (e.step s1 mu1) (z.step s1) fun o m2 vo H2 s2 mu2 r2 q2 => by
    obtain ⟨p, C, ns, ds, m3, rfl, ha, hc, hn, hf, hl, hp, k⟩ := q2
    cases r2
    have q := ha.rep mu2
    cases q with
    | ins hh rf =>
      have st : ∀ o, Stp (dom m2) H2 (dom m3) (upd H2 p o) := fun o => hp.stp
      have nf : f ∉ List.map (fun q : Str × V => q.1) _ := fun zz => by
        rw [rf.names] at zz
        rw [List.contains_iff_mem.mpr zz] at hf
        cases hf
      refine ⟨p, C, _, _, rfl, hh, hc, hn, by rw [rf.lens]; have := Nat.le_of_ble_eq_true hl; omega, ?_⟩
      rw [putF_new nf]
      exact g.nx r m3 s _ ((s1.trans s2).trans (st _)) (((e.step s1 mu1).step s2 mu2).step (st _) (hp.mut mu2 (.ins upd_same ((rf.snoc (r1.mono s2)).mono (st _))))) k
end

/-! ### loops -/
section
variable {W : WX} {E : ET} {r : Rho} {m : Mu} {P : DEnds} {G : Gx} {te : TE} {ta : TA} {tt : TT} {tb : TS} {i : Nat}
theorem goL {m0 : Mu} {H0 : Hp} {De : Ends} {nx : L2.St → Hp → Prop} {Nx : Rho → Mu → Prop} (g : GoS m0 H0 P De) {H : Hp} {m : Mu} (st : Stp (dom m0) H0 (dom m) H)
    (h : ∀ r' m' s' H', Stp (dom m) H (dom m') H' → EnvR r' m' s' H' → Nx r' m' → nx s' H') : GoS m H { nx := Nx, rt := P.rt, bk := P.nx, ct := Nx } { De with nx := nx, ct := nx, bk := De.nx } :=
  ⟨h, fun d m' v H' a b c q => g.rt d m' v H' (st.trans a) b c q, fun r' m' s' H' a b q => g.nx r' m' s' H' (st.trans a) b q, h⟩
theorem ws_range1 (h : Wa W E ta r m fun ds m1 => ∃ (j : Int) (I : Nat → Rho → Mu → Prop), ds = [.int j] ∧ (-(2 ^ 62) ≤ j ∧ j < 2 ^ 62) ∧ I 0 r m1 ∧
    (∀ k r' m', k < j.toNat → I k r' m' → Ws W E tb (r'.set i (some (.int (k : Int)))) m' { nx := I (k + 1), rt := P.rt, bk := P.nx, ct := I (k + 1) }) ∧ (∀ r' m', I j.toNat r' m' → P.nx r' m')) :
    Ws W E (tFor (iRng1 ta) (gName i) tb) r m P := fun s H De e z g =>
  h s H _ e z fun ds m1 vs H1 s1 mu1 r1 q => by
    obtain ⟨j, I, rfl, ⟨b1, b2⟩, h0, hs, hd⟩ := q
    cases r1 with
    | cons ra t =>
      cases t
      cases ra
      refine ⟨j, rfl, b1, b2, ?_⟩
      refine for_range (lo := 0) (n := j.toNat) (fun k s' H' => ∃ r' m', Stp (dom m) H (dom m') H' ∧ EnvR r' m' s' H' ∧ I k r' m') ⟨r, m1, s1, e.step s1 mu1, h0⟩ (fun k s' H' hk ⟨r', m', st, e', hi⟩ => ?_) (fun s' H' ⟨r', m', st, e', hi⟩ => g.nx r' m' s' H' st e' (hd r' m' hi))
      have q := hs k r' m' hk hi
      show tb _ (s'.set i (some (.int (0 + (k : Int))))) H'
      rw [Int.zero_add]
      exact q _ H' _ (e'.put (.int _)) (z.step st) (goL g st fun r2 m2 s2 H2 a b c => ⟨r2, m2, st.trans a, b, c⟩)
theorem ws_range2 (h : Wa W E ta r m fun ds m1 => ∃ (l j : Int) (I : Nat → Rho → Mu → Prop), ds = [.int l, .int j] ∧ (-(2 ^ 62) ≤ l ∧ l < 2 ^ 62 ∧ -(2 ^ 62) ≤ j ∧ j < 2 ^ 62) ∧ I 0 r m1 ∧
    (∀ k r' m', k < (j - l).toNat → I k r' m' → Ws W E tb (r'.set i (some (.int (l + (k : Int))))) m' { nx := I (k + 1), rt := P.rt, bk := P.nx, ct := I (k + 1) }) ∧ (∀ r' m', I (j - l).toNat r' m' → P.nx r' m')) :
    Ws W E (tFor (iRng2 ta) (gName i) tb) r m P := fun s H De e z g =>
  h s H _ e z fun ds m1 vs H1 s1 mu1 r1 q => by
    obtain ⟨l, j, I, rfl, b1, h0, hs, hd⟩ := q
    cases r1 with
    | cons ra t =>
      cases t with
      | cons rb t =>
        cases t
        cases ra
        cases rb
        refine ⟨l, j, rfl, b1, ?_⟩
        refine for_range (lo := l) (n := (j - l).toNat) (fun k s' H' => ∃ r' m', Stp (dom m) H (dom m') H' ∧ EnvR r' m' s' H' ∧ I k r' m') ⟨r, m1, s1, e.step s1 mu1, h0⟩ (fun k s' H' hk ⟨r', m', st, e', hi⟩ => ?_) (fun s' H' ⟨r', m', st, e', hi⟩ => g.nx r' m' s' H' st e' (hd r' m' hi))
        exact hs k r' m' hk hi _ H' _ (e'.put (.int _)) (z.step st) (goL g st fun r2 m2 s2 H2 a b c => ⟨r2, m2, st.trans a, b, c⟩)
/-- for over a list or a tuple -/
def iSeq (K : PySem.W.Frag) (tl : TE) : TI := fun σ H R => tl σ H fun x H1 => (∃ a, x = .ref a ∧ (∃ xs, SqL K H1 a xs) ∧ R (Itl K a) H1) ∨ (∃ a, x = .ref a ∧ (∃ xs, SqT K H1 a xs) ∧ R (Itt K a) H1)
theorem pi_seq {X : Cx} {tg l : Expr} {tl : TE} (hl : PE X l tl) : PI X tg l (iSeq X.K tl) := by
  refine ⟨fun pins s σ H R I h => ?_⟩
  refine thn (hl.run pins s σ H _ I h) fun v s1 ⟨x, H1, I1, r1, q1⟩ => ?_
  rcases q1 with ⟨a, e, ⟨xs, hq⟩, q⟩ | ⟨a, e, ⟨xs, hq⟩, q⟩
  · subst e
    cases r1
    obtain ⟨its, rv, p, hz⟩ := I1.list hq
    refine wpAny_pyIter_list p.isList ?_
    refine ⟨s1.heap.objs.size, [s1.heap.objs.size], _, _, H1, rfl, I1.kept (t' := s1.toks) fun b o e => Heap.get?_push_of_some _ e, turn_list a _, ⟨_, Heap.get?_push_size _ rfl, rfl, rfl⟩, fun b hb => ?_, q⟩
    have e : b = s1.heap.objs.size := by simpa using hb
    subst e
    exact I1.fpOk (Nat.le_refl _) (I1.hok.fresh (Nat.le_refl _))
  · subst e
    cases r1
    obtain ⟨its, rv, p, hz⟩ := I1.tuple hq
    refine wpAny_pyIter_tuple (show s1.heap.IsTuple a its.toArray from p) ?_
    refine ⟨s1.heap.objs.size, [s1.heap.objs.size], _, _, H1, rfl, I1.kept (t' := s1.toks) fun b o e => Heap.get?_push_of_some _ e, turn_tuple a _, ⟨_, Heap.get?_push_size _ rfl, rfl, rfl⟩, fun b hb => ?_, q⟩
    have e : b = s1.heap.objs.size := by simpa using hb
    subst e
    exact I1.fpOk (Nat.le_refl _) (I1.hok.fresh (Nat.le_refl _))
inductive SeqD : D → List D → Prop
  | lst {xs : List D} : SeqD (.lst xs) xs
  | tup {xs : List D} : SeqD (.tup xs) xs
/-- by an invariant -/
theorem ws_seqI {g : TG} (h : We W E te r m fun d m1 => ∃ (xs : List D) (I : Nat → Rho → Mu → Prop), SeqD d xs ∧ I 0 r m1 ∧
    (∀ k x r' m', xs[k]? = some x → I k r' m' → Wg W E g x r' m' fun r2 m2 => Ws W E tb r2 m2 { nx := I (k + 1), rt := P.rt, bk := P.nx, ct := I (k + 1) }) ∧ (∀ r' m', I xs.length r' m' → P.nx r' m')) :
    Ws W E (tFor (iSeq G.K te) g tb) r m P := fun s H De e z gg =>
  h s H _ e z fun d m1 v H1 s1 mu1 r1 q => by
    obtain ⟨xs, I, sd, h0, hs, hd⟩ := q
    cases sd with
    | lst =>
      cases r1 with
      | @lst a _ vs mm hh rs =>
        refine .inl ⟨a, rfl, ⟨_, rd_l hh⟩, ?_⟩
        refine for_list (xs := vs) (fun k s' H' => ∃ r' m', Stp (dom m1) H1 (dom m') H' ∧ EnvR r' m' s' H' ∧ I k r' m') ⟨r, m1, Stp.refl _ _, e.step s1 mu1, h0⟩ (fun k s' H' _ ⟨r', m', st1, e', hi⟩ => rd_l (st1.rd mm hh).1)
          (fun k x s' H' hx ⟨r', m', st1, e', hi⟩ => ?_) (fun s' H' ⟨r', m', st1, e', hi⟩ => gg.nx r' m' s' H' (s1.trans st1) e' (hd r' m' (by rw [rs.length]; exact hi)))
        obtain ⟨d, hd1, hd2⟩ := rs.getV hx
        refine hs k d r' m' hd1 hi s' H' x _ e' (z.step (s1.trans st1)) (hd2.mono st1) fun r2 m2 s2 H2 st2 e2 q2 => ?_
        exact q2 s2 H2 _ e2 (z.step (s1.trans (st1.trans st2))) (goL gg (s1.trans (st1.trans st2)) fun r3 m3 s3 H3 a3 b3 c3 => ⟨r3, m3, st1.trans (st2.trans a3), b3, c3⟩)
    | tup =>
      cases r1 with
      | @tup a _ vs mm hh rs =>
        refine .inr ⟨a, rfl, ⟨_, rd_t hh⟩, ?_⟩
        refine for_tup (xs := vs) (fun k s' H' => ∃ r' m', Stp (dom m1) H1 (dom m') H' ∧ EnvR r' m' s' H' ∧ I k r' m') ⟨r, m1, Stp.refl _ _, e.step s1 mu1, h0⟩ (fun k s' H' _ ⟨r', m', st1, e', hi⟩ => rd_t (st1.rd mm hh).1)
          (fun k x s' H' hx ⟨r', m', st1, e', hi⟩ => ?_) (fun s' H' ⟨r', m', st1, e', hi⟩ => gg.nx r' m' s' H' (s1.trans st1) e' (hd r' m' (by rw [rs.length]; exact hi)))
        obtain ⟨d, hd1, hd2⟩ := rs.getV hx
        refine hs k d r' m' hd1 hi s' H' x _ e' (z.step (s1.trans st1)) (hd2.mono st1) fun r2 m2 s2 H2 st2 e2 q2 => ?_
        exact q2 s2 H2 _ e2 (z.step (s1.trans (st1.trans st2))) (goL gg (s1.trans (st1.trans st2)) fun r3 m3 s3 H3 a3 b3 c3 => ⟨r3, m3, st1.trans (st2.trans a3), b3, c3⟩)
/-- turn by turn, the target a name -/
def ForL (W : WX) (E : ET) (i : Nat) (tb : TS) (P : DEnds) : List D → Rho → Mu → Prop
  | [], r, m => P.nx r m
  | x :: xs, r, m => Ws W E tb (r.set i (some x)) m { nx := ForL W E i tb P xs, rt := P.rt, bk := P.nx, ct := ForL W E i tb P xs }
theorem ws_seqU (h : We W E te r m fun d m1 => ∃ xs, SeqD d xs ∧ ForL W E i tb P xs r m1) : Ws W E (tFor (iSeq G.K te) (gName i) tb) r m P :=
  ws_seqI (h.imp fun d m1 ⟨xs, sd, q⟩ => ⟨xs, fun k r' m' => ForL W E i tb P (xs.drop k) r' m', sd, (show ForL W E i tb P (xs.drop 0) r m1 by rw [List.drop_zero]; exact q), fun k x r' m' hx hi => by
    obtain ⟨hk, hx'⟩ := List.getElem?_eq_some_iff.mp hx
    have hi2 : ForL W E i tb P (xs.drop k) r' m' := hi
    rw [List.drop_eq_getElem_cons hk, hx'] at hi2
    exact wg_name hi2, fun r' m' hi => by
    have hi2 : ForL W E i tb P (xs.drop xs.length) r' m' := hi
    rw [List.drop_length] at hi2
    exact hi2⟩)
theorem forL_nil {r : Rho} {m : Mu} (h : P.nx r m) : ForL W E i tb P [] r m := h
theorem forL_cons {x : D} {xs : List D} {r : Rho} {m : Mu} (h : Ws W E tb (r.set i (some x)) m { nx := ForL W E i tb P xs, rt := P.rt, bk := P.nx, ct := ForL W E i tb P xs }) : ForL W E i tb P (x :: xs) r m := h
/-- while, by a word and a measure -/
theorem ws_while (I : Rho → Mu → Prop) (f : Rho → Mu → Nat) (h0 : I r m) (h : ∀ r m, I r m → Wt W E tt r m fun b m1 => (b = true → Ws W E tb r m1 { nx := fun r' m' => I r' m' ∧ f r' m' < f r m, rt := P.rt, bk := P.nx, ct := fun r' m' => I r' m' ∧ f r' m' < f r m }) ∧ (b = false → P.nx r m1)) :
    Ws W E (tWhile tt tb) r m P := fun s H De e z g => by
  refine ⟨fun n s' H' => ∃ r' m', n = f r' m' ∧ Stp (dom m) H (dom m') H' ∧ EnvR r' m' s' H' ∧ I r' m', ⟨_, r, m, rfl, Stp.refl _ _, e, h0⟩, ?_⟩
  rintro n s' H' ⟨r', m', rfl, st, e', hi⟩
  refine h r' m' hi s' H' _ e' (z.step st) fun b m1 H1 s1 mu1 q => ?_
  cases b with
  | true =>
    rw [if_pos rfl]
    refine ⟨fun s2 H2 => ∃ r2 m2, f r2 m2 < f r' m' ∧ Stp (dom m) H (dom m2) H2 ∧ EnvR r2 m2 s2 H2 ∧ I r2 m2, fun s2 H2 ⟨r2, m2, l, a, b, c⟩ => ⟨_, l, r2, m2, rfl, a, b, c⟩, ?_⟩
    exact q.1 rfl s' H1 _ (e'.step s1 mu1) (z.step (st.trans s1)) (goL g (st.trans s1) fun r2 m2 s2 H2 a b c => ⟨r2, m2, c.2, st.trans (s1.trans a), b, c.1⟩)
  | false =>
    rw [if_neg Bool.false_ne_true]
    exact g.nx r' m1 s' H1 (st.trans s1) (e'.step s1 mu1) (q.2 rfl)
end
end DL
set_option Elab.async false
set_option linter.all false
set_option maxRecDepth 100000
/-! DL6: built-in functions, comprehensions, lists changed, errors raised and caught. -/
namespace DL
open PySem PySem.Spec L2
open PyProof.Rows hiding St

/-! ### built-in functions: the readings -/
section
variable {X : Cx} {W : WX} {j : Nat}
def rAbsI : List V → Hp → VK → Prop := fun xs H Q => ∃ i, xs = [.int i] ∧ Q (.int (if i < 0 then -i else i)) H
def cAbs : OC := fun xs _ H Q => rAbsI xs H Q
theorem cs_abs : CallS X (.builtin "abs") cAbs := CallS.of call_abs
def rInt1 : List V → Hp → VK → Prop := fun xs H Q => (∃ i, xs = [.int i] ∧ Q (.int i) H) ∨ ∃ k, xs = [.bl k] ∧ Q (.int (if k then 1 else 0)) H
def cInt : OC := fun xs _ H Q => rInt1 xs H Q
theorem cs_int : CallS X (.type "int") cInt := CallS.of call_int1
def rLenD (K : PySem.W.Frag) : List V → Hp → VK → Prop := fun xs H Q => ∃ x n, xs = [x] ∧ LenV K x H n ∧ Q (.int (n : Nat)) H
def cLen (G : Gx) : OC := fun xs _ H Q => rLenD G.K xs H Q
theorem cs_len : CallS X (.builtin "len") (cLen (Gx.of X)) := CallS.of call_len
def rMin2 : List V → Hp → VK → Prop := fun xs H Q => ∃ i j, xs = [.int i, .int j] ∧ Q (.int (if j < i then j else i)) H
def rMax2 : List V → Hp → VK → Prop := fun xs H Q => ∃ i j, xs = [.int i, .int j] ∧ Q (.int (if j > i then j else i)) H
def cMin : OC := fun xs _ H Q => rMin2 xs H Q
def cMax : OC := fun xs _ H Q => rMax2 xs H Q
theorem cs_min (hc : X.calm = true) : CallS X (.builtin "min") cMin := CallS.of (call_min2 hc)
theorem cs_max (hc : X.calm = true) : CallS X (.builtin "max") cMax := CallS.of (call_max2 hc)
def cGcd : OC := fun xs _ H Q => rGcd xs H Q
theorem cs_gcd : CallS X (.builtin "math.gcd") cGcd := CallS.of cr_gcd
def cIsi (G : Gx) : OC := fun xs _ H Q => rIsi G.K xs H Q
theorem cs_isi : CallS X (.builtin "isinstance") (cIsi (Gx.of X)) := CallS.of call_isi
end

/-! ### what they do -/
section
variable {W : WX} {E : ET} {r : Rho} {m : Mu} {K : KT} {G : Gx} {j : Nat}
theorem wc_abs {i : Int} (h : K (.int (i.natAbs : Int)) m) : Wc W E cAbs [.int i] r m K := fun s H Q vs e z rs g => by
  cases rs with
  | cons a t =>
    cases t; cases a
    refine ⟨i, rfl, ?_⟩
    have q : (if i < 0 then -i else i) = (i.natAbs : Int) := by split <;> omega
    rw [q]
    exact g _ m _ H (Stp.refl _ _) e.mu (.int _) h
theorem wc_int {i : Int} (h : K (.int i) m) : Wc W E cInt [.int i] r m K := fun s H Q vs e z rs g => by
  cases rs with
  | cons a t =>
    cases t; cases a
    exact .inl ⟨i, rfl, g _ m _ H (Stp.refl _ _) e.mu (.int _) h⟩
theorem wc_intB {b : Bool} (h : K (.int (if b then 1 else 0)) m) : Wc W E cInt [.bl b] r m K := fun s H Q vs e z rs g => by
  cases rs with
  | cons a t =>
    cases t; cases a
    exact .inr ⟨b, rfl, g _ m _ H (Stp.refl _ _) e.mu (.int _) h⟩
inductive LenD : D → Mu → Nat → Prop
  | tup {m : Mu} {xs : List D} : LenD (.tup xs) m xs.length
  | lst {m : Mu} {xs : List D} : LenD (.lst xs) m xs.length
  | mutb {m : Mu} {p : Addr} {xs : List D} (h : At m p (.lst xs)) : LenD (.ref p) m xs.length
theorem wc_len {d : D} {n : Nat} (l : LenD d m n) (h : K (.int (n : Int)) m) : Wc W E (cLen G) [d] r m K := fun s H Q vs e z rs g => by
  cases rs with
  | cons a t =>
    cases t
    refine ⟨_, n, rfl, ?_, g _ m _ H (Stp.refl _ _) e.mu (.int _) h⟩
    cases l with
    | tup => cases a with | tup mm hh rs => exact .inr ⟨_, rd_t hh, rs.length⟩
    | lst => cases a with | lst mm hh rs => exact .inl ⟨_, rd_l hh, rs.length⟩
    | mutb hm =>
      cases a
      have q := hm.rep e.mu
      cases q with
      | lst hh rs => exact .inl ⟨_, SqL.of hh, rs.length⟩
theorem wc_min {i k : Int} (h : K (.int (min i k)) m) : Wc W E cMin [.int i, .int k] r m K := fun s H Q vs e z rs g => by
  cases rs with
  | cons a t =>
    cases t with
    | cons b t =>
      cases t; cases a; cases b
      refine ⟨i, k, rfl, ?_⟩
      have q : (if k < i then k else i) = min i k := by split <;> omega
      rw [q]
      exact g _ m _ H (Stp.refl _ _) e.mu (.int _) h
theorem wc_max {i k : Int} (h : K (.int (max i k)) m) : Wc W E cMax [.int i, .int k] r m K := fun s H Q vs e z rs g => by
  cases rs with
  | cons a t =>
    cases t with
    | cons b t =>
      cases t; cases a; cases b
      refine ⟨i, k, rfl, ?_⟩
      have q : (if k > i then k else i) = max i k := by split <;> omega
      rw [q]
      exact g _ m _ H (Stp.refl _ _) e.mu (.int _) h
theorem wc_gcd {i k : Int} (h : K (.int ((Nat.gcd i.natAbs k.natAbs : Nat) : Int)) m) : Wc W E cGcd [.int i, .int k] r m K := fun s H Q vs e z rs g => by
  cases rs with
  | cons a t =>
    cases t with
    | cons b t =>
      cases t; cases a; cases b
      exact ⟨i, k, rfl, g _ m _ H (Stp.refl _ _) e.mu (.int _) h⟩
/-- the class of a tree, as isinstance asks -/
structure InsK (K : PySem.W.Frag) (C : Addr) : Prop where
  cl : Cls K C
  ha : PySem.W.findIn K (.ref C) "__class__" = some (some (.builtin "object.__class__"))
  hn : PySem.W.specialIn K (.builtin "object.__class__") "__get__" = some (some (.builtin "getset_descriptor.__get__"))
  ht : PySem.W.takesIn K (.builtin "object.__class__") = some true
  hm : PySem.W.mroIn K C (.type "object") = some true
inductive TyD (G : Gx) : D → Mu → Value → Prop
  | non {m : Mu} : TyD G .non m (.type "NoneType")
  | bl {m : Mu} {b : Bool} : TyD G (.bl b) m (.type "bool")
  | int {m : Mu} {i : Int} : TyD G (.int i) m (.type "int")
  | str {m : Mu} {x : Str} : TyD G (.str x) m (.type "str")
  | tup {m : Mu} {xs : List D} : TyD G (.tup xs) m (.type "tuple")
  | lst {m : Mu} {xs : List D} : TyD G (.lst xs) m (.type "list")
  | ins {m : Mu} {C : Addr} {ns : List Str} {ds : List D} (h : InsK G.K C) : TyD G (.ins C ns ds) m (.ref C)
theorem TyD.ok {d : D} {t : Value} {H : Hp} {v : V} (h : TyD G d m t) (rp : Rep (dom m) H d v) : TyX G.K H v t := by
  cases h with
  | non => cases rp; exact .base .non
  | bl => cases rp; exact .base (.bl _)
  | int => cases rp; exact .base (.int _)
  | str => cases rp; exact .base (.str _)
  | tup =>
    cases rp with
    | tup mm hh rs =>
      rcases hh with hh | ⟨o, hh⟩
      · exact .base (.tup hh)
      · exact .fTuple hh
  | lst =>
    cases rp with
    | lst mm hh rs =>
      rcases hh with hh | ⟨o, hh⟩
      · exact .base (.lst hh)
      · exact .base (.frz hh)
  | ins h =>
    cases rp with
    | ins mm hh rs => exact .base (.ins hh h.cl h.ha h.hn h.ht h.hm)
theorem wc_isiT {d : D} {t : Value} {n : String} {b : Bool} (ty : TyD G d m t) (hk : PySem.W.kitOne G.K t (.type n) = some b) (h : K (.bl b) m) : Wc W E (cIsi G) [d, .ty n] r m K := fun s H Q vs e z rs g => by
  cases rs with
  | cons a tt =>
    cases tt with
    | cons c tt =>
      cases tt; cases c
      exact ⟨_, _, t, .type n, b, rfl, .ty n, ty.ok a, hk, g _ m _ H (Stp.refl _ _) e.mu (.bl _) h⟩
theorem wc_isiC {d : D} {t : Value} {C : Addr} {b : Bool} (ty : TyD G d m t) (hk : PySem.W.kitOne G.K t (.ref C) = some b) (h : K (.bl b) m) : Wc W E (cIsi G) [d, .ref C] r m K := fun s H Q vs e z rs g => by
  cases rs with
  | cons a tt =>
    cases tt with
    | cons c tt =>
      cases tt; cases c
      exact ⟨_, _, t, .ref C, b, rfl, .own C, ty.ok a, hk, g _ m _ H (Stp.refl _ _) e.mu (.bl _) h⟩
end

/-! ### comprehensions over a list or a tuple, the element by a function -/
section
variable {W : WX} {E : ET} {r : Rho} {m : Mu} {K : KT} {G : Gx} {te tx : TE} {i : Nat}
theorem wipe1 (s : L2.St) : wipe s [i] = s.set i none := rfl
theorem we_lcmG {f : D → D} {W0 : WX} {E0 : ET} (hz : ∀ {m : Mu} {H : Hp}, Rz W E m H → Rz W0 E0 m H) (h : We W E tx r m fun d m1 => ∃ xs, SeqD d xs ∧ Nat.ble xs.length 100000 = true ∧ (∀ x ∈ xs, ∀ (q : Addr × MO) (K2 : KT), K2 (f x) (q :: m1) → We W0 E0 te (r.set i (some x)) (q :: m1) K2) ∧ K (.lst (xs.map f)) m1) :
    We W E (tLc (iSeq G.K tx) (gName i) tYes te [i]) r m K := fun s H Q e z g =>
  h s H _ e z fun d m1 v H1 s1 mu1 r1 q => by
    obtain ⟨xs, sd, hlen, hel, hK⟩ := q
    have e1 := e.step s1 mu1
    have hlen' := Nat.le_of_ble_eq_true hlen
    have start : ∀ Dd, H1 Dd = none → (Stp (dom m1) H1 (dom ((Dd, MO.lst ((xs.take 0).map f)) :: m1)) (upd H1 Dd (.lst [])) ∧ MutR ((Dd, .lst ((xs.take 0).map f)) :: m1) (upd H1 Dd (.lst []))) := fun Dd hd =>
      ⟨Stp.newM hd, mu1.newM hd (.lst upd_same .nil)⟩
    have fin : ∀ (vs : List V) (Dd : Addr), Reps (dom m1) H1 xs vs → ∀ H', (Stp (dom m1) H1 (dom ((Dd, MO.lst ((xs.take vs.length).map f)) :: m1)) H' ∧ MutR ((Dd, .lst ((xs.take vs.length).map f)) :: m1) H') → Q (.ref Dd) H' := fun vs Dd rs H' ⟨a, b⟩ => by
      rw [← rs.length, List.take_length] at a b
      have ls : Stp (dom ((Dd, MO.lst (xs.map f)) :: m1)) H' (dom m1) H' := Stp.less fun a z => dom_cons.mpr (.inr z)
      have q := (At.head (m := m1) (p := Dd) (o := .lst (xs.map f))).rep b
      cases q with
      | lst hh rr => exact g _ m1 _ H' (s1.trans (a.trans ls)) b.drop (.lst b.notin (.inl hh) (rr.mono ls)) hK
    have turn : ∀ (vs : List V) (Dd : Addr), Reps (dom m1) H1 xs vs → ∀ k x H', vs[k]? = some x → (Stp (dom m1) H1 (dom ((Dd, MO.lst ((xs.take k).map f)) :: m1)) H' ∧ MutR ((Dd, .lst ((xs.take k).map f)) :: m1) H') →
        te ((wipe s [i]).set i (some x)) H' fun y H4 => ∃ acc, H4 Dd = some (.lst acc) ∧ acc.length < sizeLine ∧ (Stp (dom m1) H1 (dom ((Dd, MO.lst ((xs.take (k + 1)).map f)) :: m1)) (upd H4 Dd (.lst (acc ++ [y]))) ∧ MutR ((Dd, .lst ((xs.take (k + 1)).map f)) :: m1) (upd H4 Dd (.lst (acc ++ [y])))) := fun vs Dd rs k x H' hx ⟨a, b⟩ => by
      obtain ⟨d, hd1, hd2⟩ := rs.getV hx
      have hmem : d ∈ xs := List.mem_of_getElem? hd1
      have ee : EnvR (r.set i (some d)) ((Dd, .lst ((xs.take k).map f)) :: m1) ((wipe s [i]).set i (some x)) H' := by
        have e' := e1.step a b
        refine ⟨?_, b⟩
        rw [wipe1, List.set_set]
        exact (e'.put (hd2.mono a)).env
      refine hel d hmem (Dd, .lst ((xs.take k).map f)) (fun d' m' => d' = f d ∧ m' = (Dd, .lst ((xs.take k).map f)) :: m1) ⟨rfl, rfl⟩ _ H' _ ee (hz (z.step (s1.trans a))) fun d' m' y H4 st4 mu4 r4 qq => ?_
      obtain ⟨rfl, rfl⟩ := qq
      have q := (At.head (m := m1) (p := Dd) (o := .lst ((xs.take k).map f))).rep mu4
      have ex : xs.take (k + 1) = xs.take k ++ [d] := by
        rw [List.take_add_one, hd1]
        rfl
      cases q with
      | @lst _ ys hh rr =>
        have al : ys.length < sizeLine := by
          rw [← rr.length, List.length_map, List.length_take]
          have : (100000 : Nat) < sizeLine := by decide
          omega
        have P : Put ((Dd, MO.lst ((xs.take k).map f)) :: m1) Dd (.lst ((xs.take (k + 1)).map f)) ((Dd, .lst ((xs.take (k + 1)).map f)) :: m1) := .head
        refine ⟨ys, hh, al, a.trans (st4.trans P.stp), P.mut mu4 (.lst upd_same ?_)⟩
        rw [ex, List.map_append]
        exact Reps.append (rr.mono P.stp) (.cons (r4.mono P.stp) .nil)
    cases sd with
    | lst =>
      cases r1 with
      | @lst a _ vs mm hh rs =>
        refine .inl ⟨a, rfl, ⟨vs, rd_l hh⟩, fun (Dd : Addr) (hD : H1 Dd = none) => ?_⟩
        refine lc_list (xs := vs) (fun k H' => Stp (dom m1) H1 (dom ((Dd, MO.lst ((xs.take k).map f)) :: m1)) H' ∧ MutR ((Dd, .lst ((xs.take k).map f)) :: m1) H') (start Dd hD) (fun k H' _ p => rd_l (p.1.rd mm hh).1)
          (fun k x H' hx p => ⟨by simp only [wipe, List.set_set], ?_⟩) (fun H' p => fin vs Dd rs H' p)
        unfold tYes
        dsimp only
        rw [if_pos rfl]
        exact turn vs Dd rs k x H' hx p
    | tup =>
      cases r1 with
      | @tup a _ vs mm hh rs =>
        refine .inr ⟨a, rfl, ⟨vs, rd_t hh⟩, fun (Dd : Addr) (hD : H1 Dd = none) => ?_⟩
        refine lc_tup (xs := vs) (fun k H' => Stp (dom m1) H1 (dom ((Dd, MO.lst ((xs.take k).map f)) :: m1)) H' ∧ MutR ((Dd, .lst ((xs.take k).map f)) :: m1) H') (start Dd hD) (fun k H' _ p => rd_t (p.1.rd mm hh).1)
          (fun k x H' hx p => ⟨by simp only [wipe, List.set_set], ?_⟩) (fun H' p => fin vs Dd rs H' p)
        unfold tYes
        dsimp only
        rw [if_pos rfl]
        exact turn vs Dd rs k x H' hx p
theorem we_lcm {f : D → D} (h : We W E tx r m fun d m1 => ∃ xs, SeqD d xs ∧ Nat.ble xs.length 100000 = true ∧ (∀ x ∈ xs, ∀ (q : Addr × MO) (K2 : KT), K2 (f x) (q :: m1) → We W E te (r.set i (some x)) (q :: m1) K2) ∧ K (.lst (xs.map f)) m1) :
    We W E (tLc (iSeq G.K tx) (gName i) tYes te [i]) r m K := we_lcmG (fun z => z) h
/-- no call of an element lets an exception out -/
theorem we_lcmN {f : D → D} (h : We W E tx r m fun d m1 => ∃ xs, SeqD d xs ∧ Nat.ble xs.length 100000 = true ∧ (∀ x ∈ xs, ∀ (q : Addr × MO) (K2 : KT), K2 (f x) (q :: m1) → We (fun _ _ _ _ => False) (fun _ _ _ => False) te (r.set i (some x)) (q :: m1) K2) ∧ K (.lst (xs.map f)) m1) :
    We W E (tLc (iSeq G.K tx) (gName i) tYes te [i]) r m K := we_lcmG (fun _ _ _ _ _ _ _ _ _ _ _ (e : False) => e.elim) h
end
end DL
set_option Elab.async false
set_option linter.all false
set_option maxRecDepth 100000
/-! DL7: lists changed, slices, errors raised and caught. -/
namespace DL
open PySem PySem.Spec L2
open PyProof.Rows hiding St

section
variable {W : WX} {E : ET} {r : Rho} {m : Mu} {K : KT} {G : Gx} {te to : TE} {ta : TA} {i : Nat} {P : DEnds}
/-! ### xs.append(d) -/
theorem we_app (h : We W E to r m fun o m1 => ∃ p xs1, o = .ref p ∧ At m1 p (.lst xs1) ∧ Wa W E ta r m1 fun ds m2 => ∃ xs d m3, ds = [d] ∧ At m2 p (.lst xs) ∧ xs.length < 1000000 ∧ Put m2 p (.lst (xs ++ [d])) m3 ∧ K .non m3) :
    We W E (tBM G.K "list" rAppend to ta) r m K := fun s H Q e z g =>
  h s H _ e z fun o m1 v H1 s1 mu1 r1 q => by
    obtain ⟨p, xs1, rfl, ha1, q⟩ := q
    cases r1
    have at1 := ha1.rep mu1
    cases at1 with
    | lst hh1 rs1 =>
      refine ⟨Or.inl ⟨rfl, _, SqL.of hh1⟩, ?_⟩
      refine q s H1 _ (e.step s1 mu1) (z.step s1) fun ds m2 vs H2 s2 mu2 r2 q2 => ?_
      obtain ⟨xs, d, m3, rfl, ha, hl, hp, k⟩ := q2
      have at2 := ha.rep mu2
      cases at2 with
      | lst hh rs =>
        cases r2 with
        | cons rd t =>
          cases t
          have st : ∀ o, Stp (dom m2) H2 (dom m3) (upd H2 p o) := fun o => hp.stp
          refine ⟨p, _, _, rfl, rfl, hh, Nat.lt_of_lt_of_le (by rw [← rs.length]; exact hl) (by decide : 1000000 ≤ sizeLine), ?_⟩
          exact g _ m3 _ _ ((s1.trans s2).trans (st _)) (hp.mut mu2 (.lst upd_same (Reps.append (rs.mono (st _)) (.cons (rd.mono (st _)) .nil)))) .non k

/-! ### slices -/
def cutD (xs : List D) (lo hi : Option Int) : List D := (xs.drop (HT.sIx xs.length 0 lo)).take (HT.sIx xs.length xs.length hi - HT.sIx xs.length 0 lo)
theorem Reps.cut {M : Addr → Prop} {H : Hp} {ds : List D} {vs : List V} (h : Reps M H ds vs) (lo hi : Option Int) : Reps M H (cutD ds lo hi) (cutV vs lo hi) := by
  unfold cutD cutV
  rw [h.length]
  exact (h.drop _).take _
def Wo (W : WX) (E : ET) (t : TO) (r : Rho) (m : Mu) (KO : Option Int → Mu → Prop) : Prop := ∀ s H Q, EnvR r m s H → Rz W E m H → (∀ o m' H', Stp (dom m) H (dom m') H' → MutR m' H' → KO o m' → Q o H') → t s H Q
theorem wo_none {KO : Option Int → Mu → Prop} (h : KO none m) : Wo W E tNoPart r m KO := fun s H Q e z g => g none m H (Stp.refl _ _) e.mu h
theorem wo_some {KO : Option Int → Mu → Prop} (h : We W E te r m fun d m1 => ∃ i, d = .int i ∧ KO (some i) m1) : Wo W E (tPart te) r m KO := fun s H Q e z g =>
  h s H _ e z fun d m1 v H1 s1 mu1 r1 ⟨i, hd, k⟩ => by
    subst hd
    cases r1
    exact ⟨i, rfl, g _ m1 H1 s1 mu1 k⟩
theorem we_slL {tl th : TO} (h : We W E te r m fun d m1 => ∃ xs, d = .lst xs ∧ Wo W E tl r m1 fun lo m2 => Wo W E th r m2 fun hi m3 => K (.lst (cutD xs lo hi)) m3) : We W E (tSl (rSlL G.K) te tl th) r m K := fun s H Q e z g =>
  h s H _ e z fun d m1 v H1 s1 mu1 r1 ⟨xs, hd, q⟩ => by
    subst hd
    refine q s H1 _ (e.step s1 mu1) (z.step s1) fun lo m2 H2 s2 mu2 q2 => ?_
    refine q2 s H2 _ ((e.step s1 mu1).step s2 mu2) ((z.step s1).step s2) fun hi m3 H3 s3 mu3 k => ?_
    have r3 := (r1.mono s2).mono s3
    cases r3 with
    | lst mm hh rs =>
      refine ⟨_, _, rfl, rd_l hh, fun p hp => ?_⟩
      exact g _ m3 _ _ (((s1.trans s2).trans s3).trans (Stp.new hp)) (mu3.new hp) (.lst (fun zz => by obtain ⟨u, hu⟩ := mu3.there zz; rw [hp] at hu; cases hu) (.inl upd_same) ((rs.cut lo hi).mono (Stp.new hp))) k
/-- xs[::-1] -/
theorem Reps.rev {M : Addr → Prop} {H : Hp} : ∀ {d : List D} {v : List V}, Reps M H d v → Reps M H d.reverse v.reverse
  | _, _, .nil => .nil
  | _, _, .cons r t => by
    rw [List.reverse_cons, List.reverse_cons]
    exact Reps.append (Reps.rev t) (.cons r .nil)
theorem we_revL (h : We W E te r m fun d m1 => ∃ xs, d = .lst xs ∧ K (.lst xs.reverse) m1) : We W E (tRevL G.K te) r m K := fun s H Q e z g => by
  refine h s H _ e z fun d m1 v H1 s1 mu1 r1 ⟨xs, hd, k⟩ => ?_
  subst hd
  cases r1 with
  | lst mm hh rs =>
    refine ⟨_, _, rfl, rd_l hh, fun p hp => ?_⟩
    exact g _ m1 _ _ (s1.trans (Stp.new hp)) (mu1.new hp) (.lst (fun zz => by obtain ⟨u, hu⟩ := mu1.there zz; rw [hp] at hu; cases hu) (.inl upd_same) (rs.rev.mono (Stp.new hp))) k
/-- .. of a list that is changed -/
theorem we_revM (h : We W E te r m fun d m1 => ∃ p xs, d = .ref p ∧ At m1 p (.lst xs) ∧ K (.lst xs.reverse) m1) : We W E (tRevL G.K te) r m K := fun s H Q e z g => by
  refine h s H _ e z fun d m1 v H1 s1 mu1 r1 ⟨q, xs, hd, ha, k⟩ => ?_
  subst hd
  cases r1
  have at1 := ha.rep mu1
  cases at1 with
  | lst hh rs =>
    refine ⟨_, _, rfl, SqL.of hh, fun p hp => ?_⟩
    exact g _ m1 _ _ (s1.trans (Stp.new hp)) (mu1.new hp) (.lst (fun zz => by obtain ⟨u, hu⟩ := mu1.there zz; rw [hp] at hu; cases hu) (.inl upd_same) (rs.rev.mono (Stp.new hp))) k
end

/-! ### errors made by an own class: C(e, ..) with an __init__ that keeps its arguments in fields -/
def spXI (C : Addr) (ns : List Str) : Sp := fun vs H Q _ => ∃ (a : Addr) (ys : List V), vs = .ref a :: ys ∧ ys.length = ns.length ∧ H a = some (exo a C none) ∧
  ∀ d H', H d = none → d ≠ a → (∀ b, b ≠ a → b ≠ d → H' b = H b) → H' a = some (exo a C (some d)) → H' d = some (exd d (ns.zip ys).reverse) → Q .non H'
structure Exc (G : Gx) (x : Str) (C : Addr) (ns : List Str) : Prop where
  ex : ∃ (f : Addr) (fd : FuncData) (ps : List Str), FnOk G.P G.w G.K G.mg G.base CX0 1 f fd ps (spXI C ns) ∧ Binds G.K fd ps [] ∧ PySem.W.findIn G.K (.ref C) "__init__" = some (some (.ref f)) ∧ PySem.W.typeIn G.K (.ref f) = some (.type "function")
  ox : OexC G.K C
  mgC : G.mg x = some (.ref C)
section
variable {X : Cx} {W : WX} {E : ET} {x : Str} {C : Addr} {ns : List Str} {e : Expr} {es : List Expr} {ta : TA} {p pos pos' : Pos} {j : Nat}
theorem pmkN_oex (c : Exc (Gx.of X) x C ns) (hr : Room j X.A) (hj : 2 ≤ j) (hg : Gl X x) (ha : PA X (e :: es) ta)
    (hdb : (x == ("__debug__" : Str)) = false := by decide) (he : starEach (e :: es) X.env = (false, eval e X.env) :: starEach es X.env := by rfl) (hpl : (backTo pos (starEach es X.env)).any (·.1) = false := by rfl) :
    L2N.PMk X (.Call (.Name x p) (e :: es) [] pos) (tMkO C (spXI C ns) [] ta) := by
  intro pins s σ H Q I h
  obtain ⟨fI, fd, ps, F1, hb, iC, tI⟩ := c.ex
  have T := c.ox
  obtain ⟨nm, q, N, bs, bm, sn, sub, ab, col, dd, k0, k1, k2, k3, k5, hC, hbm⟩ := T.cls
  refine wpAny_Call_Name_kw (ld_glob I hg c.mgC ?_ hdb)
  refine PySem.W.callWith_K (h₀ := X.base) I.ok.mod.kin T.kC (thn (ha.run pos pins s σ H _ I h) fun us s1 ⟨vs, H1, I1, r1, hz, q1⟩ => ⟨I1.kIn, ?_⟩) he hpl
  show wpAny _ _ (call (.ref C) us) _ _ _
  obtain ⟨hp, g, dr, tk, os⟩ := s1
  have hsz : hp.objs.size ≤ hp.objs.size + 1 := Nat.le_succ _
  have hn : H1 (hp.objs.size + 1) = none := I1.hok.fresh hsz
  have hq := q1 (hp.objs.size + 1) hn
  rw [List.append_nil] at hq
  have kk : ∀ b o, hp.get? b = some o → ((hp.push (PySem.W.kdv_tup us)).push (PySem.HandSPX.excO C hp.objs.size)).get? b = some o := fun b o e => Heap.get?_push_of_some _ (Heap.get?_push_of_some _ e)
  have hget : ((hp.push (PySem.W.kdv_tup us)).push (PySem.HandSPX.excO C hp.objs.size)).get? (hp.objs.size + 1) = some (PySem.HandSPX.excO C hp.objs.size) := by heap_get
  have I2 : Inv X pins σ (upd H1 (hp.objs.size + 1) (exo (hp.objs.size + 1) C none)) ⟨(hp.push (PySem.W.kdv_tup us)).push (PySem.HandSPX.excO C hp.objs.size), g, dr, tk, os⟩ :=
    I1.laid (t' := tk) (a := hp.objs.size + 1) (o := exo (hp.objs.size + 1) C none) (h' := (hp.push (PySem.W.kdv_tup us)).push (PySem.HandSPX.excO C hp.objs.size)) kk hsz (exo_ok hget)
  have r2 : Vals (V.ref (hp.objs.size + 1) :: vs) (Value.ref (hp.objs.size + 1) :: us) := .cons rfl r1
  have hl : (Value.ref (hp.objs.size + 1) :: us ++ []).length = ps.length := by
    have e := r2.length
    rw [F1.len _ _ _ _ hq] at e
    rw [List.append_nil]
    exact e.symm
  have hus : us.length ≤ sizeLine := by
    rw [← Paired.length r1, sizeLine_eq]
    omega
  have b2 := hb _ (Value.ref (hp.objs.size + 1) :: us) I2.kIn hl
  rw [List.append_nil] at b2
  refine wpAny_call (PySem.HandSPX.call_own F.excBase_ValueError (fun Y => PySem.HandSPX.refsVE_contains Y bm hbm) (I1.kIn _ _ hC) (PySem.W.looks_findIn I1.kIn iC) (fun self => PySem.W.bind_fn I1.kIn self tI) hus
    (codeAny_mono (F1.run _ X.stack _ _ ⟨Value.ref (hp.objs.size + 1) :: us, []⟩ (Value.ref (hp.objs.size + 1) :: us) _ _ (fun _ _ _ => False) ((hr.mono hj).make C us []) (I2.env0.make C us []) b2 r2 hq) fun r s' hq' => ?_))
  cases r with
  | error er => exact False.elim hq'
  | ok fl =>
    cases fl with
    | ret u =>
      obtain ⟨v, H2, os2, bare2, un2, hok2, rv, ev, d, fs, ea, ed, hd1, q2⟩ := hq'
      subst ev
      obtain ⟨h2, g2, d2, t2, os'⟩ := s'
      obtain ⟨t0, G, J, kG, ge, hoe, na⟩ := mk_end0 (d2 := d2) (t2 := t2) I1 hsz kk un2 hok2 os2 bare2 ea ed hd1
      exact ⟨rv, ⟨_, _, _, ⟨G, g2, d2, t2, os'⟩, _, .ref C, some d, rfl, J, kG, ge, hoe, ⟨rfl, rfl, fun vs e => by cases e; rfl⟩, rfl, rfl, na, rfl, bare2, raises_own T.exC T.tyC, q2⟩⟩
    | next => exact False.elim hq'
    | brk => exact False.elim hq'
    | cont => exact False.elim hq'
def tRs (C : Addr) (ns : List Str) (W : WX) (ta : TA) : TS := fun _ σ H => tMkO C (spXI C ns) [] ta σ H fun cls d H' => W cls d σ H'
theorem ps_rs (c : Exc (Gx.of X) x C ns) (hc : X.calm = true) (hr : Room j X.A) (hj : 2 ≤ j) (tk : L2N.Takes X W) (hg : Gl X x) (ha : PA X (e :: es) ta)
    (hdb : (x == ("__debug__" : Str)) = false := by decide) (he : starEach (e :: es) X.env = (false, eval e X.env) :: starEach es X.env := by rfl) (hpl : (backTo pos (starEach es X.env)).any (·.1) = false := by rfl) :
    PS X (.Raise (some (.Call (.Name x p) (e :: es) [] pos)) none pos') (tRs C ns W ta) := L2N.ps_raise hc tk (pmkN_oex c hr hj hg ha hdb he hpl)
theorem repF_zip {M : Addr → Prop} {H : Hp} : ∀ {ns : List Str} {ds : List D} {vs : List V}, ds.length = ns.length → Reps M H ds vs → RepF M H ns ds (ns.zip vs)
  | [], [], _, _, .nil => .nil
  | n :: ns, d :: ds, v :: vs, h, .cons r t => .cons r (repF_zip (by simpa using h) t)
theorem RepF.append {M : Addr → Prop} {H : Hp} : ∀ {n n' : List Str} {d d' : List D} {v v' : List (Str × V)}, RepF M H n d v → RepF M H n' d' v' → RepF M H (n ++ n') (d ++ d') (v ++ v')
  | _, _, _, _, _, _, .nil, h => h
  | _, _, _, _, _, _, .cons r t, h => .cons r (RepF.append t h)
theorem RepF.rev {M : Addr → Prop} {H : Hp} : ∀ {n : List Str} {d : List D} {v : List (Str × V)}, RepF M H n d v → RepF M H n.reverse d.reverse v.reverse
  | _, _, _, .nil => .nil
  | _, _, _, .cons r t => by
    rw [List.reverse_cons, List.reverse_cons, List.reverse_cons]
    exact RepF.append (RepF.rev t) (.cons r .nil)
theorem ws_rs {r : Rho} {m : Mu} {P : DEnds} (h : Wa W E ta r m fun ds m1 => ds.length = ns.length ∧ Nat.ble ds.length 1000 = true ∧ E ⟨C, ns.reverse, ds.reverse⟩ r m1) : Ws W E (tRs C ns W ta) r m P := fun s H De e z g =>
  h s H _ e z fun ds m1 vs H1 s1 mu1 r1 ⟨hl, h1000, q⟩ => by
    refine ⟨by rw [← r1.length]; exact Nat.le_of_ble_eq_true h1000, fun a ha => ?_⟩
    refine ⟨a, vs, by rw [List.append_nil], by rw [← r1.length, hl], upd_same, fun d H' hd hne hs h1 h2 => ⟨rfl, d, _, h1, h2, ?_, ?_⟩⟩
    · rw [upd_ne hne] at hd
      exact hd
    · rw [upd_ne hne] at hd
      have hd' : H1 d = none := hd
      have st : Stp (dom m1) H1 (dom m1) (upd (del H' a) d (.xd (ns.zip vs).reverse)) := fun b o hb hm => by
        have nbd : b ≠ d := fun e => by rw [e, hd'] at hb; cases hb
        have nba : b ≠ a := fun e => by rw [e, ha] at hb; cases hb
        rw [upd_ne nbd, del_ne nba, hs b nba nbd, upd_ne nba]
        exact ⟨hb, hm⟩
      have mu : MutR m1 (upd (del H' a) d (.xd (ns.zip vs).reverse)) := ⟨mu1.nd, fun q hq => (mu1.at_ q hq).mono st fun u hu => by
        have nbd : q.1 ≠ d := fun e => by rw [e, hd'] at hu; cases hu
        have nba : q.1 ≠ a := fun e => by rw [e, ha] at hu; cases hu
        rw [upd_ne nbd, del_ne nba, hs _ nba nbd, upd_ne nba]
        exact hu⟩
      have nd : ¬ dom m1 d := fun zz => by obtain ⟨u, hu⟩ := mu1.there zz; rw [hd'] at hu; cases hu
      refine z _ r m1 _ _ s _ (s1.trans st) (e.step (s1.trans st) mu) ⟨rfl, .inr ⟨d, _, rfl, upd_same, nd, ?_⟩⟩ q
      exact RepF.rev (repF_zip hl (r1.mono st))
end

/-! ### try: .. except X as n: .. -/
abbrev wNo : WX := fun _ _ _ _ => False
abbrev eNo : ET := fun _ _ _ => False
theorem takes0N {X : Cx} : L2N.Takes X wNo := fun _ _ x => by
  obtain ⟨_, _, _, _, _, _, _, _, _, _, _, _, _, _, _, _, z⟩ := x
  exact z.elim
abbrev pX (P : DEnds) (i : Nat) : DEnds := { nx := fun r m => P.nx (r.set i none) m, rt := P.rt, bk := fun r m => P.bk (r.set i none) m, ct := fun r m => P.ct (r.set i none) m }
def eAs (K : PySem.W.Frag) (c : Value) (i : Nat) (ts : Addr → Value → Option Addr → TS) (P : DEnds) (E : ET) : ET := fun x r' m' => ∃ b, PySem.W.exmOne K (.ref x.C) c = some b ∧
  (b = true → ∀ a dd, Ws wNo eNo (ts a (.ref x.C) dd) (r'.set i (some (.exc a dd x.C x.ns x.ds))) m' (pX P i)) ∧ (b = false → E x r' m')
section
variable {W : WX} {E : ET} {r : Rho} {m : Mu} {K : PySem.W.Frag} {P : DEnds} {c : Value} {i : Nat} {tb : WX → TS} {ts : Addr → Value → Option Addr → TS} {te : TE} {G : Gx} {KT' : KT}
theorem repX_exc {M : Addr → Prop} {H : Hp} {x : Ex} {cls : Value} {dd : Option Addr} {a : Addr} (h : RepX M H x cls dd) : Rep M H (.exc a dd x.C x.ns x.ds) (.ref a) := by
  obtain ⟨e, h⟩ := h
  obtain ⟨C, ns, ds⟩ := x
  rcases h with ⟨rfl, h1, h2⟩ | ⟨d, gs, rfl, h2, h3, h4⟩
  · have h1' : ns = [] := h1
    have h2' : ds = [] := h2
    subst h1' h2'
    exact .excN
  · exact .excS h3 h2 h4
def tTry (K : PySem.W.Frag) (c : Value) (i : Nat) (ts : Addr → Value → Option Addr → TS) (tb : WX → TS) (W : WX) : TS := fun D σ H => tb (wAs K c i ts W D) D σ H
theorem ps_tryD {X : Cx} {x n : Str} {b₀ : Stmt} {body suite : List Stmt} {np pos pos' : Pos} (hs : X.stack = X.env :: X.outer) (hf : X.env.frame = some X.env.locals) (hN : X.N.Nodup) (hi : X.N[i]? = some n) (hln : X.env.kindOf n = some .local) (hc : Names X x c) (tk : L2N.Takes X W)
    (hb : ∀ (W : WX) (pn : List (Addr × Obj)) (xe : Value → Shared → Prop), L2N.Takes (X.tr pn xe) W → PassesOwn (model X.prog X.w) X.A X.env xe → PSs (X.tr pn xe) body (tb W))
    (hsu : ∀ (a : Addr) (oe : Obj) (cls : Value) (d : Option Addr) (pn : List (Addr × Obj)), L2N.Zn cls d oe → (∃ vs, oe.data = .fields vs) → PSs (X.suite a ((a, oe) :: pn)) (b₀ :: suite) (ts a cls d)) :
    PS X (.Try body [.ExceptHandler (some (.Name x np)) (some n) (b₀ :: suite) pos'] [] [] pos) (tTry X.K c i ts tb W) := L2N.ps_try_as hs hf hN hi hln hc tk hb hsu
theorem ws_try (h : ∀ W', Ws W' (eAs K c i ts P E) (tb W') r m P) : Ws W E (tTry K c i ts tb W) r m P := fun s H De e z g => by
  refine h (wAs K c i ts W De) s H De e ?_ g
  intro x r' m' cls dd s' H' st er rx ⟨b, hb, ht, hf⟩
  obtain rfl := rx.1
  refine ⟨b, hb, fun hbt a ha => ?_, fun hbf => z x r' m' _ dd s' H' st er rx (hf hbf)⟩
  have g' := g.step st
  refine ht hbt a dd _ H' _ (er.put (repX_exc rx)) (fun _ _ _ _ _ _ _ _ _ _ q => q.elim) ?_
  have back : ∀ {r2 : Rho} {m2 : Mu} {s2 : L2.St} {H2 : Hp}, EnvR r2 m2 s2 H2 → EnvR (r2.set i none) m2 (s2.set i none) H2 := fun e2 => ⟨e2.env.set (.none _) i, e2.mu⟩
  exact ⟨fun r2 m2 s2 H2 a2 b2 q => g'.nx _ m2 _ H2 a2 (back b2) q, g'.rt, fun r2 m2 s2 H2 a2 b2 q => g'.bk _ m2 _ H2 a2 (back b2) q, fun r2 m2 s2 H2 a2 b2 q => g'.ct _ m2 _ H2 a2 (back b2) q⟩
/-- e.f in the suite -/
def tXfD (K : PySem.W.Frag) (a : Addr) (cls : Value) (d : Option Addr) (f : Str) (te : TE) : TE := fun σ H Q => ∃ C, XfC K C ∧ PySem.W.findIn K (.ref C) f = some none ∧ tXf a cls d C f te σ H Q
theorem pe_xfD {X : Cx} {a : Addr} {oe : Obj} {cls : Value} {d : Option Addr} {pn : List (Addr × Obj)} {e : Expr} {te : TE} {pos : Pos} {f : Str}
    (hz : L2N.Zn cls d oe) (hf : ∃ vs, oe.data = .fields vs) (he : PE (X.suite a ((a, oe) :: pn)) e te) (hb : attributeBase e f X.env (eval e X.env) = eval e X.env := by rfl) :
    PE (X.suite a ((a, oe) :: pn)) (.Attribute e f pos) (tXfD X.K a cls d f te) := ⟨fun pins s σ H Q I ⟨C, T, hno, h⟩ => (pe_xf T hno hz.zc hf he hb).run pins s σ H Q I h⟩
theorem we_xf {a C : Addr} {dd : Option Addr} {f : Str} (T : XfC G.K C) (hno : PySem.W.findIn G.K (.ref C) f = some none)
    (h : We W E te r m fun d m1 => ∃ ns ds x, d = .exc a dd C ns ds ∧ fix f ns ds = some x ∧ KT' x m1) : We W E (tXfD G.K a (.ref C) dd f te) r m KT' := fun s H Q e z g =>
  ⟨C, T, hno, h s H _ e z fun d m1 v H1 s1 mu1 r1 ⟨ns, ds, x, hd, hx, k⟩ => by
    subst hd
    cases r1 with
    | excN => simp [fix] at hx
    | excS mm hh rf =>
      obtain ⟨y, h1, h2⟩ := rf.look hx
      exact ⟨rfl, rfl, _, _, y, rfl, hh, h1, g x m1 y H1 s1 mu1 h2 k⟩⟩
end
end DL
set_option Elab.async false
set_option linter.all false
set_option maxRecDepth 100000
/-! DL8: the script, the ends, the steps as a word. -/
namespace DL
open PySem PySem.Spec L2
open PyProof.Rows hiding St
theorem hotc {cls : Value} {d : Option Addr} {oe : Obj} (hz : L2N.Zn cls d oe) (hf : ∃ vs, oe.data = .fields vs) : ∃ vs, oe.data = .fields vs ∧ vs[2]? = some .none := by
  obtain ⟨vs, h⟩ := hf
  exact ⟨vs, h, hz.2.2 vs h⟩
/-- the script as the law gets it -/
inductive ScrD (KF : PySem.W.Frag) : D → List Int → Prop
  | lst {ns : List Int} : ScrD KF (.lst (ns.map D.int)) ns
  | ref {a : Addr} {ns : List Int} (h : ∀ H, SqL KF H a (ns.map V.int)) : ScrD KF (.ref a) ns
section
variable {W : WX} {E : ET} {r : Rho} {m : Mu} {K : KT} {G : Gx} {te : TE}
theorem we_slS {tl th : TO} (h : We W E te r m fun d m1 => ∃ ns, ScrD G.K d ns ∧ Wo W E tl r m1 fun lo m2 => Wo W E th r m2 fun hi m3 => K (.lst (cutD (ns.map D.int) lo hi)) m3) : We W E (tSl (rSlL G.K) te tl th) r m K := fun s H Q e z g =>
  h s H _ e z fun d m1 v H1 s1 mu1 r1 ⟨ns, sd, q⟩ => by
    refine q s H1 _ (e.step s1 mu1) (z.step s1) fun lo m2 H2 s2 mu2 q2 => ?_
    refine q2 s H2 _ ((e.step s1 mu1).step s2 mu2) ((z.step s1).step s2) fun hi m3 H3 s3 mu3 k => ?_
    have r3 := (r1.mono s2).mono s3
    cases sd with
    | lst =>
      cases r3 with
      | lst mm hh rs =>
        refine ⟨_, _, rfl, rd_l hh, fun p hp => ?_⟩
        exact g _ m3 _ _ (((s1.trans s2).trans s3).trans (Stp.new hp)) (mu3.new hp) (.lst (fun zz => by obtain ⟨u, hu⟩ := mu3.there zz; rw [hp] at hu; cases hu) (.inl upd_same) ((rs.cut lo hi).mono (Stp.new hp))) k
    | ref h =>
      cases r3
      refine ⟨_, _, rfl, h H3, fun p hp => ?_⟩
      exact g _ m3 _ _ (((s1.trans s2).trans s3).trans (Stp.new hp)) (mu3.new hp) (.lst (fun zz => by obtain ⟨u, hu⟩ := mu3.there zz; rw [hp] at hu; cases hu) (.inl upd_same) (((Reps.ints ns).cut lo hi).mono (Stp.new hp))) k
theorem scr_of {KF : PySem.W.Frag} {H : Hp} {a : Addr} {ns : List Int} (h : SqL KF H a (ns.map V.int)) : ∃ d, ScrD KF d ns ∧ Rep (dom []) H d (.ref a) := by
  rcases h with h | h
  · exact ⟨_, .lst, .lst dom_nil h (Reps.ints ns)⟩
  · exact ⟨_, .ref fun H' => .inr h, .ref a⟩
end
theorem cut63 {xs : List D} (h : xs.length ≤ 63) : cutD xs none (some 63) = xs := by
  unfold cutD
  have e1 : HT.sIx xs.length 0 none = 0 := rfl
  have e2 : HT.sIx xs.length xs.length (some 63) = xs.length := by
    rw [show (some (63 : Int)) = some ((63 : Nat) : Int) from rfl, HT.sIx_nat]
    omega
  rw [e1, e2, List.drop_zero, Nat.sub_zero, List.take_length]

theorem rH {k : Nat} {A : Around} {h : Option Value} (r : L2.Room k A) : L2H.RoomH k (A.mark h) := ⟨r.dp, r.un⟩
/-! ### sizes -/
theorem log2_of {x : Int} {n : Nat} (h : x.natAbs < 2 ^ n) (h0 : 0 < n) : x.natAbs.log2 < n := PySem.Flt.log2_lt_of h0 h
def Bd (n : Nat) (x : Int) : Prop := x.natAbs < 2 ^ n
theorem Bd.mono {a b : Nat} {x : Int} (h : Bd a x) (l : a ≤ b) : Bd b x := Nat.lt_of_lt_of_le h (Nat.pow_le_pow_right (by decide) l)
theorem Bd.mul {a b : Nat} {x y : Int} (h : Bd a x) (k : Bd b y) : Bd (a + b) (x * y) := wide_lt h k
theorem Bd.add {a : Nat} {x y : Int} (h : Bd a x) (k : Bd a y) : Bd (a + 1) (x + y) := by
  unfold Bd at *
  rw [Nat.pow_succ]
  omega
theorem Bd.sub {a : Nat} {x y : Int} (h : Bd a x) (k : Bd a y) : Bd (a + 1) (x - y) := by
  unfold Bd at *
  rw [Nat.pow_succ]
  omega
theorem Bd.neg {a : Nat} {x : Int} (h : Bd a x) : Bd a (-x) := by
  unfold Bd at *
  omega
theorem Bd.ok {a : Nat} {x : Int} (h : Bd a x) : x.natAbs.log2 ≤ a := by
  have := log2_of (n := a + 1) (h.mono (Nat.le_succ a)) (Nat.succ_pos a)
  omega
theorem Bd.mulX {a b : Nat} {x y : Int} (h : Bd a x) (k : Bd b y) (l : a + b < 100000000) : CMulX x y := by
  have := h.ok
  have := k.ok
  unfold CMulX
  omega
theorem Bd.divX {a : Nat} {x y : Int} (h : Bd a y) (n : y ≠ 0) (l : a < 9000) : CDivX x y := ⟨n, .inl (by have := h.ok; omega)⟩
theorem bd_lit {x : Int} {n : Nat} (h : x.natAbs.blt (2 ^ n) = true) : Bd n x := Nat.le_of_ble_eq_true h

/-! ### the pot that a law draws from -/
def PotM (p : Addr) (m0 m : Mu) : Prop := ∃ (cs : List Int) (i r : Int), m = (p, .lst [.lst (cs.map D.int), .int i, .int r]) :: m0 ∧ 0 ≤ i ∧ 0 ≤ r ∧ ∀ c ∈ cs, 0 ≤ c
def S_pot (KF : PySem.W.Frag) : SpecD := fun ds m K _ => ∃ d ns, ds = [d] ∧ ScrD KF d ns ∧ ns.length ≤ 63 ∧ ∀ p m', ¬ dom m p → PotM p m m' → K (.ref p) m'
def S_digit : SpecD := fun ds m K _ => ∃ p many m0, ds = [.ref p, .int many] ∧ 0 < many ∧ Bd 8000 many ∧ PotM p m0 m ∧ ∀ dg m', 0 ≤ dg → dg < many → PotM p m0 m' → K (.int dg) m'

theorem cx_G {G : Gx} {N : List Str} {qual : Str} {st : Stmt} {f : Addr} {cdv : Value} {A : Around} {outer : List Env} {s : Shared} {H : Hp} {F : XK} : Gx.of (cxG G N qual st f cdv A outer s H F) = G := rfl
theorem cx_K {G : Gx} {N : List Str} {qual : Str} {st : Stmt} {f : Addr} {cdv : Value} {A : Around} {outer : List Env} {s : Shared} {H : Hp} {F : XK} : (cxG G N qual st f cdv A outer s H F).K = G.K := rfl
theorem cxH_G {G : Gx} {N : List Str} {qual : Str} {st : Stmt} {f : Addr} {cdv : Value} {A : Around} {outer : List Env} {s : Shared} {H : Hp} {F : XK} {p : Addr × Obj} : Gx.of (cxGH G N qual st f cdv A outer s H F p) = G := rfl
theorem cxH_K {G : Gx} {N : List Str} {qual : Str} {st : Stmt} {f : Addr} {cdv : Value} {A : Around} {outer : List Env} {s : Shared} {H : Hp} {F : XK} {p : Addr × Obj} : (cxGH G N qual st f cdv A outer s H F p).K = G.K := rfl
/-- an item of a list of numbers -/
theorem atI_ints {cs : List Int} {i : Int} (h0 : 0 ≤ i) (h1 : i < (cs.length : Int)) : ∃ c, c ∈ cs ∧ atI (cs.map D.int) i = some (.int c) := by
  obtain ⟨n, rfl⟩ := Int.eq_ofNat_of_zero_le h0
  have hn : n < cs.length := by omega
  refine ⟨cs[n], List.getElem_mem hn, atI_nat ?_⟩
  rw [List.getElem?_map, List.getElem?_eq_getElem hn]
  rfl
theorem use_digit {p : Addr} {many : Int} {m m0 : Mu} {K : KT} {E : Ex → Mu → Prop} (h0 : 0 < many) (hb : Bd 8000 many) (hm : PotM p m0 m) (k : ∀ dg m', 0 ≤ dg → dg < many → PotM p m0 m' → K (.int dg) m') : S_digit [.ref p, .int many] m K E :=
  ⟨p, many, m0, rfl, h0, hb, hm, k⟩

section
variable {W : WX} {E : ET} {r : Rho} {m : Mu} {K : KT} {S : SpecD} {n : Nat} {t : TA} {C : Addr} {G : Gx} {te : TE}
theorem Wa.imp {KA KA' : List D → Mu → Prop} (h : Wa W E t r m KA) (k : ∀ ds m', KA ds m' → KA' ds m') : Wa W E t r m KA' := fun s H Q e z g => h s H Q e z fun ds m' vs H' a b c x => g ds m' vs H' a b c (k ds m' x)
theorem we_cl0 (h : Wa W E t r m fun ds m1 => ds.length = n ∧ S ds m1 K fun x m' => E x r m') : We W E (tCl n S [] W t) r m K :=
  we_cl rfl (h.imp fun ds m' k => by rw [List.append_nil]; exact k)
theorem we_mk0 (h : Wa W E t r m fun ds m1 => ds.length + 1 = n ∧ ∀ x, ¬ dom m1 x →
    S (.ref x :: ds) ((x, .ins C [] []) :: m1) (fun d m2 => ∃ ns fs, d = .non ∧ m2 = (x, .ins C ns fs) :: m1 ∧ K (.ins C ns fs) m1) fun ex m2 => ∃ o, m2 = (x, o) :: m1 ∧ E ex r m1) : We W E (tMk C n S [] W t) r m K :=
  we_mk rfl (h.imp fun ds m' k => by rw [List.append_nil]; exact k)
/-- one more argument by default -/
theorem we_mk1 {d1 : D} (hc : isC d1 = true) (h : Wa W E t r m fun ds m1 => ds.length + 1 + 1 = n ∧ ∀ x, ¬ dom m1 x →
    S (.ref x :: (ds ++ [d1])) ((x, .ins C [] []) :: m1) (fun d m2 => ∃ ns fs, d = .non ∧ m2 = (x, .ins C ns fs) :: m1 ∧ K (.ins C ns fs) m1) fun ex m2 => ∃ o, m2 = (x, o) :: m1 ∧ E ex r m1) : We W E (tMk C n S [d1] W t) r m K :=
  we_mk (by rw [List.all_cons, hc]; rfl) (h.imp fun ds m' k => ⟨by rw [List.length_append]; exact k.1, k.2⟩)
/-- a field of a fixed instance -/
theorem we_fldF {f : Str} (h : We W E te r m fun d m1 => ∃ C ns ds x, d = .ins C ns ds ∧ Cls G.K C ∧ NoAttr G.K C f ∧ fix f ns ds = some x ∧ K x m1) : We W E (tFld G.K te f) r m K :=
  we_fld (h.imp fun d m1 ⟨C, ns, ds, x, hd, q⟩ => ⟨C, ns, ds, x, by rw [hd]; exact .fixed, q⟩)
end
/-! ### Ratio: top, bottom -/
abbrev rat (C : Addr) (t b : Int) : D := .ins C ["top", "bottom"] [.int t, .int b]
theorem fix_top {a b : D} : fix "top" ["top", "bottom"] [a, b] = some a := by simp [fix]
theorem nbt : ¬ (("bottom" : Str) = "top") := by decide +kernel
theorem ntb : ¬ (("top" : Str) = "bottom") := by decide +kernel
theorem fix_bottom {a b : D} : fix "bottom" ["top", "bottom"] [a, b] = some b := by simp [fix, nbt]
structure RatC (K : PySem.W.Frag) (C : Addr) : Prop where
  ins : InsK K C
  at_ : NoAttr K C "top"
  ab : NoAttr K C "bottom"
section
variable {K : PySem.W.Frag} {KK : D → Prop} {C : Addr} {t b : Int}
theorem fld_top (R : RatC K C) (h : KK (.int t)) : ∃ C' ns ds x, rat C t b = .ins C' ns ds ∧ Cls K C' ∧ NoAttr K C' "top" ∧ fix "top" ns ds = some x ∧ KK x := ⟨_, _, _, _, rfl, R.ins.cl, R.at_, fix_top, h⟩
theorem fld_bottom (R : RatC K C) (h : KK (.int b)) : ∃ C' ns ds x, rat C t b = .ins C' ns ds ∧ Cls K C' ∧ NoAttr K C' "bottom" ∧ fix "bottom" ns ds = some x ∧ KK x := ⟨_, _, _, _, rfl, R.ins.cl, R.ab, fix_bottom, h⟩
end

theorem kit_ii {K : PySem.W.Frag} : PySem.W.kitOne K (.type "int") (.type "int") = some true := kit_ty (by decide +kernel)
theorem kit_ib {K : PySem.W.Frag} : PySem.W.kitOne K (.type "int") (.type "bool") = some false := kit_ty (by decide +kernel)
section
variable {K : PySem.W.Frag} {C : Addr} {m0 : Mu} {x : Addr} {d e : D} {N : Mu → Prop}
theorem cont_tb : (["top"] : List Str).contains "bottom" = false := by decide +kernel
theorem setN_top (R : RatC K C) (h : N ((x, .ins C ["top"] [d]) :: m0)) : ∃ p C' ns ds m3, D.ref x = .ref p ∧ At ((x, MO.ins C [] []) :: m0) p (.ins C' ns ds) ∧ Cls K C' ∧ NoAttr K C' "top" ∧ ns.contains "top" = false ∧ Nat.ble ns.length 900 = true ∧ Put ((x, MO.ins C [] []) :: m0) p (.ins C' (ns ++ [("top" : Str)]) (ds ++ [d])) m3 ∧ N m3 :=
  ⟨_, _, _, _, _, rfl, .head, R.ins.cl, R.at_, rfl, rfl, .head, h⟩
theorem setN_bottom (R : RatC K C) (h : N ((x, .ins C ["top", "bottom"] [d, e]) :: m0)) : ∃ p C' ns ds m3, D.ref x = .ref p ∧ At ((x, MO.ins C ["top"] [d]) :: m0) p (.ins C' ns ds) ∧ Cls K C' ∧ NoAttr K C' "bottom" ∧ ns.contains "bottom" = false ∧ Nat.ble ns.length 900 = true ∧ Put ((x, MO.ins C ["top"] [d]) :: m0) p (.ins C' (ns ++ [("bottom" : Str)]) (ds ++ [e])) m3 ∧ N m3 :=
  ⟨_, _, _, _, _, rfl, .head, R.ins.cl, R.ab, cont_tb, rfl, .head, h⟩
end
/-- what is left mutable at a return is let go -/
theorem MutR.dropn {H : Hp} : ∀ {m : Mu} (k : Nat), MutR m H → MutR (m.drop k) H
  | _, 0, h => h
  | [], _ + 1, h => h
  | _ :: m, k + 1, h => MutR.dropn (m := m) k h.drop
theorem dom_dropn {a : Addr} : ∀ {m : Mu} (k : Nat), dom (m.drop k) a → dom m a
  | _, 0, h => h
  | [], _ + 1, h => h
  | _ :: m, k + 1, h => dom_cons.mpr (.inr (dom_dropn (m := m) k h))
theorem Ws.shed {W : WX} {E : ET} {t : TS} {r : Rho} {m : Mu} {P : DEnds} (h : Ws W E t r m { P with rt := fun d m' => ∃ k, P.rt d (m'.drop k) }) : Ws W E t r m P := fun s H De e z g =>
  h s H De e z ⟨g.nx, fun d m' v H' a b c ⟨k, q⟩ => by
    have ls : Stp (dom m') H' (dom (m'.drop k)) H' := Stp.less fun a z => dom_dropn k z
    exact g.rt d _ v H' (a.trans ls) (b.dropn k) (c.mono ls) q, g.bk, g.ct⟩
/-- a list of a function's values, from the end -/
theorem atI_neg {α : Type} {xs : List α} {n : Nat} {v : α} (h0 : 0 < n) (hn : n ≤ xs.length) (h : xs[xs.length - n]? = some v) : atI xs (-(n : Int)) = some v := by
  unfold atI ixN
  rw [if_neg (by omega), if_pos (by omega)]
  have e : (-(n : Int) + (xs.length : Int)).toNat = xs.length - n := by omega
  rw [e]
  exact h
theorem range_at {f : Nat → D} {n i : Nat} (h : i < n) : ((List.range n).map f)[i]? = some (f i) := by
  rw [List.getElem?_map, List.getElem?_range h]
  rfl
theorem range_m1 {f : Nat → D} (k : Nat) : atI ((List.range (k + 1)).map f) (-1) = some (f k) :=
  atI_neg (n := 1) (by omega) (by simp) (by simp only [List.length_map, List.length_range]; exact range_at (by omega))
theorem range_m2 {f : Nat → D} (k : Nat) : atI ((List.range (k + 2)).map f) (-2) = some (f k) :=
  atI_neg (n := 2) (by omega) (by simp) (by simp only [List.length_map, List.length_range]; exact range_at (by omega))
theorem range_snoc {f : Nat → D} (k : Nat) : (List.range k).map f ++ [f k] = (List.range (k + 1)).map f := by
  rw [List.range_succ, List.map_append]
  rfl
theorem pe_gcD {X : Cx} {x : Str} {v : V} {pos : Pos} (hg : Gl X x) (h : ∃ u, X.mg x = some u ∧ RelV v u) (hd : (x == ("__debug__" : Str)) = false := by decide) : PE X (.Name x pos) (tC v) := by
  obtain ⟨u, hm, r⟩ := h
  exact pe_glob hg hm r hd
/-! ### the end -/
def S_law (KF : PySem.W.Frag) : SpecD := fun ds m KK _ => ∃ d ns, ds = [d] ∧ ScrD KF d ns ∧ ns.length ≤ 63 ∧ (∀ z ∈ ns, Builtin.Int.intBits z ≤ 1048576) ∧ m = [] ∧ ∀ m', KK (.bl true) m'
theorem walkB {l : PySem.W.OpenLaw} {k : Nat} {q : Program} {loose : List Str} {XP : (Str → Option Value) → Heap → Prop} {YP : World → Heap → Prop} {d : DefRec} {K : Params → PySem.W.Frag} {x : Str}
    (hn : l.most = some 63) (hdf : d.params.defaults = []) (hr : Room k callerA)
    (hY : ∀ (w : World) (h : Heap), YP w h → (K w.params).In h)
    (F : ∀ (w : World) (mg : Str → Option Value) (fa : Addr) (h : Heap), (K w.params).In h → h.Ns mainGlobals mg → mg d.name = some (.ref fa) →
      ∃ fd : FuncData, (∀ (s : Shared) (u : Value), BindsTo s fd ⟨[u], []⟩ [(x, u)]) ∧
        ∀ base : Heap, (K w.params).In base → base.Ns mainGlobals mg → FnOk l.prog w (K w.params) mg base (L2N.CX l.prog w) k fa fd [x] (spD 1 (S_law (K w.params)))) :
    PySem.W.WalkO q loose XP YP l.row.toRowW d [] (fun f vs => PySem.call f vs) :=
  L2.walk_ofB (n := 63) (k := k) (x := x) (CX := fun w => L2N.CX l.prog w) (sp := fun w => spD 1 (S_law (K w.params))) hn (by decide) hdf hr hY F
    (fun w H a ns hl hb _ h => by
      obtain ⟨dd, sd, rp⟩ := scr_of h
      exact ⟨[dd], [], fun d' _ => d' = .bl true, fun _ _ => False, rfl, .cons rp .nil, MutR.nil H, ⟨dd, ns, rfl, sd, hl, hb, rfl, fun m' => rfl⟩, fun d' m' v H' _ _ rp' e => by subst e; cases rp'; rfl, fun _ _ _ _ _ _ _ _ e => e.elim⟩)
    fun w H s e s' z => by
      obtain ⟨_, _, _, _, _, _, _, _, _, _, _, _, z⟩ := z
      exact z.elim
end DL
set_option Elab.async false
set_option linter.all false
set_option maxRecDepth 100000
/-! DL9: isinstance of a caught error; errors made without arguments; several except clauses. -/
namespace DL
open PySem PySem.Spec L2
open PyProof.Rows hiding St
/-- the class of a caught error, as isinstance asks -/
structure ExK (K : PySem.W.Frag) (D : Addr) : Prop where
  xf : XfC K D
  ic : PySem.W.isClsIn K D = true
  ha : PySem.W.findIn K (.ref D) "__class__" = some (some (.builtin "object.__class__"))
  hn : PySem.W.specialIn K (.builtin "object.__class__") "__get__" = some (some (.builtin "getset_descriptor.__get__"))
  ht : PySem.W.takesIn K (.builtin "object.__class__") = some true
  hm : PySem.W.mroIn K D (.type "object") = some true
def cIsE (K : PySem.W.Frag) (a : Addr) (cls : Value) (d : Option Addr) : OC := fun xs _ H Q => ∃ (D : Addr) (c : V) (u : Value) (b : Bool), cls = .ref D ∧ ExK K D ∧ xs = [.ref a, c] ∧ ClsV c u ∧ PySem.W.kitOne K (.ref D) u = some b ∧
  (d = none ∨ ∃ (dd : Addr) (gs : List (Str × V)), d = some dd ∧ H dd = some (.xd gs)) ∧ Q (.bl b) H
theorem cs_isE {X : Cx} {a : Addr} {cls : Value} {d : Option Addr} {oe : Obj} {pn : List (Addr × Obj)} (hz : L2N.Zn cls d oe) (hf : ∃ vs, oe.data = .fields vs) : CallS (X.suite a ((a, oe) :: pn)) (.builtin "isinstance") (cIsE X.K a cls d) := by
  intro pins s σ H xs us Q I ru h
  obtain ⟨D, c, u, b, rfl, T, rfl, hc, hk, hd, q⟩ := h
  cases ru with
  | cons ra rt =>
    cases rt with
    | cons rc rt =>
      cases rt
      cases ra
      have ec := hc.eq rc
      subst ec
      obtain ⟨hget, _⟩ := I.pin (a, oe) (List.mem_append_left _ List.mem_cons_self)
      obtain ⟨vs, hv⟩ := hf
      have hno : PySem.W.notCls oe = true := by unfold PySem.W.notCls; rw [hv] <;> rfl
      have J : ∃ od, PySem.W.InstAt s.heap a oe D od := by
        rcases hd with rfl | ⟨dd, gs, rfl, hx⟩
        · exact ⟨none, hget, hz.1, hno, by rw [hz.2.1]; trivial⟩
        · have hx : ObjOk X.prog X.w H s.heap dd (.xd gs) := I.hok dd _ hx
          obtain ⟨mA, hns, _⟩ := hx
          obtain ⟨od, ho, _⟩ := lookIn_ns hns
          exact ⟨some od, hget, hz.1, hno, by rw [hz.2.1]; exact ho⟩
      obtain ⟨od, J⟩ := J
      exact PySem.W.kia_one (PySem.W.kitx_exc T.ic T.xf.ga T.xf.gg T.xf.exC T.ha T.hn T.ht T.hm) I.kIn J hk (fun z => nomatch z) fun tk => ⟨.bl b, H, I.kept (t' := tk) fun _ _ z => z, rfl, q⟩
section
variable {W : WX} {E : ET} {r : Rho} {m : Mu} {K : KT} {G : Gx} {a C : Addr} {dd : Option Addr} {ns : List Str} {ds : List D}
theorem exc_dd {M : Addr → Prop} {H : Hp} {v : V} (h : Rep M H (.exc a dd C ns ds) v) : v = .ref a ∧ (dd = none ∨ ∃ (x : Addr) (gs : List (Str × V)), dd = some x ∧ H x = some (.xd gs)) := by
  cases h with
  | excN => exact ⟨rfl, .inl rfl⟩
  | excS mm hh rr => exact ⟨rfl, .inr ⟨_, _, rfl, hh⟩⟩
theorem wc_isEC {B : Addr} {b : Bool} (T : ExK G.K C) (hk : PySem.W.kitOne G.K (.ref C) (.ref B) = some b) (h : K (.bl b) m) : Wc W E (cIsE G.K a (.ref C) dd) [.exc a dd C ns ds, .ref B] r m K := fun s H Q vs e z rs g => by
  cases rs with
  | cons x tt =>
    cases tt with
    | cons c tt =>
      cases tt; cases c
      obtain ⟨rfl, hd⟩ := exc_dd x
      exact ⟨C, _, .ref B, b, rfl, T, rfl, .own B, hk, hd, g _ m _ H (Stp.refl _ _) e.mu (.bl _) h⟩
theorem wc_isET {n : String} {b : Bool} (T : ExK G.K C) (hk : PySem.W.kitOne G.K (.ref C) (.type n) = some b) (h : K (.bl b) m) : Wc W E (cIsE G.K a (.ref C) dd) [.exc a dd C ns ds, .ty n] r m K := fun s H Q vs e z rs g => by
  cases rs with
  | cons x tt =>
    cases tt with
    | cons c tt =>
      cases tt; cases c
      obtain ⟨rfl, hd⟩ := exc_dd x
      exact ⟨C, _, .type n, b, rfl, T, rfl, .ty n, hk, hd, g _ m _ H (Stp.refl _ _) e.mu (.bl _) h⟩
end
/-! ### raise C(), C an own class without an __init__ -/
structure Exc0 (G : Gx) (x : Str) (C : Addr) : Prop where
  q : PySem.W.excIn G.K C [.type "ValueError", .type "Exception", .type "BaseException", .type "object"] "ValueError.__new__" = true
  kC : PySem.W.keepIn G.K (.ref C) = true
  exC : PySem.W.subIn G.K (.ref C) (.type "BaseException") = some true
  tyC : PySem.W.typeIn G.K (.ref C) = some (.type "type")
  mgC : G.mg x = some (.ref C)
def tRs0 (C : Addr) (W : WX) : TS := fun _ σ H => W (.ref C) none σ H
section
variable {X : Cx} {W : WX} {E : ET} {x : Str} {C : Addr} {p pos pos' : Pos} {r : Rho} {m : Mu} {P : DEnds}
theorem pmkN_own0 (c : Exc0 (Gx.of X) x C) (hg : Gl X x) (hdb : (x == ("__debug__" : Str)) = false := by decide) : L2N.PMk X (.Call (.Name x p) [] [] pos) (fun _ H Q => Q (.ref C) none H) := by
  intro pins s σ H Q I h
  refine wpAny_Call_Name_kw (ld_glob I hg c.mgC ?_ hdb)
  refine PySem.W.callWith_K0 I.kIn c.kC ?_
  obtain ⟨bm, Na, nm, qn, bs, hdct, sn, sub, ab, col, dd, k0, k1, k2, k3, k5, mN, hC, hN, hni, T⟩ := exc_obj I.kIn c.q
  exact wpAny_call_exc_subT PySem.F.excBase_ValueError T hC hN hni (fun h' e hm => L2N.mk_of I hm (raises_own c.exC c.tyC) h (I.hok.gone hm.new)) (by show 0 ≤ sizeLine; exact Nat.zero_le _)
theorem ps_rs0 (c : Exc0 (Gx.of X) x C) (hc : X.calm = true) (tk : L2N.Takes X W) (hg : Gl X x) (hdb : (x == ("__debug__" : Str)) = false := by decide) :
    PS X (.Raise (some (.Call (.Name x p) [] [] pos)) none pos') (tRs0 C W) := L2N.ps_raise hc tk (pmkN_own0 c hg hdb)
theorem ws_rs0 (h : E ⟨C, [], []⟩ r m) : Ws W E (tRs0 C W) r m P := fun s H De e z g => z _ r m _ _ s H (Stp.refl _ _) e ⟨rfl, .inl ⟨rfl, rfl, rfl⟩⟩ h
end
/-! ### several clauses: except C1 as n: .., except C2 as n: .. -/
end DL
set_option Elab.async false
set_option linter.all false
/-! MR: fractions in lowest terms, Euclid's turns. -/
namespace DL
open PySem PySem.Spec L2
/-! ### lowest terms -/
def gc (t b : Int) : Int := (Nat.gcd t.natAbs b.natAbs : Nat)
def rT (t b : Int) : Int := if b < 0 then -t / gc t b else t / gc t b
def rB (t b : Int) : Int := if b < 0 then -b / gc t b else b / gc t b
theorem gc_pos {t b : Int} (h : b ≠ 0) : 0 < gc t b := by
  have : 0 < Nat.gcd t.natAbs b.natAbs := Nat.gcd_pos_of_pos_right _ (by omega)
  unfold gc; omega
theorem gc_dvd1 (t b : Int) : gc t b ∣ t := Int.ofNat_dvd_left.mpr (Nat.gcd_dvd_left _ _)
theorem gc_dvd2 (t b : Int) : gc t b ∣ b := Int.ofNat_dvd_left.mpr (Nat.gcd_dvd_right _ _)
theorem gc_bd {t b : Int} {n : Nat} (h : b ≠ 0) (hb : Bd n b) : Bd n (gc t b) := by
  have : Nat.gcd t.natAbs b.natAbs ≤ b.natAbs := Nat.le_of_dvd (by omega) (Nat.gcd_dvd_right _ _)
  unfold Bd gc at *
  omega
theorem fdiv_pos {a g : Int} (h : 0 < g) : a.fdiv g = a / g := Int.fdiv_eq_ediv_of_nonneg _ (by omega)
theorem fdiv_neg' {a g : Int} (h : 0 < g) (d : g ∣ a) : a.fdiv (-g) = -a / g := by
  obtain ⟨c, rfl⟩ := d
  have e1 : g * c = (-g) * (-c) := by rw [Int.neg_mul_neg]
  have e2 : -(g * c) = g * (-c) := by rw [Int.mul_neg]
  rw [e2, Int.mul_ediv_cancel_left _ (by omega), e1, Int.mul_comm]
  exact Int.mul_fdiv_cancel _ (by omega)
/-- t = g * rT up to the sign of b -/
theorem rat_eqs {t b : Int} (h : b ≠ 0) : ∃ g : Int, g ≠ 0 ∧ t = g * rT t b ∧ b = g * rB t b ∧ 0 < rB t b := by
  have gp := gc_pos (t := t) h
  obtain ⟨c, hc⟩ := gc_dvd1 t b
  obtain ⟨d, hd⟩ := gc_dvd2 t b
  by_cases hb : b < 0
  · refine ⟨-gc t b, by omega, ?_, ?_, ?_⟩
    · unfold rT; rw [if_pos hb]
      have : -t / gc t b = -c := by
        have e : -t = gc t b * (-c) := by rw [Int.mul_neg, ← hc]
        rw [e, Int.mul_ediv_cancel_left _ (by omega)]
      rw [this, Int.neg_mul_neg]; exact hc
    · unfold rB; rw [if_pos hb]
      have : -b / gc t b = -d := by
        have e : -b = gc t b * (-d) := by rw [Int.mul_neg, ← hd]
        rw [e, Int.mul_ediv_cancel_left _ (by omega)]
      rw [this, Int.neg_mul_neg]; exact hd
    · unfold rB; rw [if_pos hb]
      exact Int.ediv_pos_of_pos_of_dvd (by omega) (by omega) (Int.dvd_neg.mpr ⟨d, hd⟩)
  · refine ⟨gc t b, by omega, ?_, ?_, ?_⟩
    · unfold rT; rw [if_neg hb]
      have : t / gc t b = c := by
        have e : t = gc t b * c := hc
        rw [show t / gc t b = (gc t b * c) / gc t b by rw [← e], Int.mul_ediv_cancel_left _ (by omega)]
      rw [this]; exact hc
    · unfold rB; rw [if_neg hb]
      have : b / gc t b = d := by
        have e : b = gc t b * d := hd
        rw [show b / gc t b = (gc t b * d) / gc t b by rw [← e], Int.mul_ediv_cancel_left _ (by omega)]
      rw [this]; exact hd
    · unfold rB; rw [if_neg hb]
      exact Int.ediv_pos_of_pos_of_dvd (by omega) (by omega) ⟨d, hd⟩
theorem natAbs_div {a : Int} {g : Nat} (h : 0 < g) (d : (g : Int) ∣ a) : (a / (g : Int)).natAbs = a.natAbs / g := by
  obtain ⟨c, rfl⟩ := d
  rw [Int.mul_ediv_cancel_left _ (by omega), Int.natAbs_mul, Int.natAbs_natCast, Nat.mul_div_cancel_left _ h]
theorem rat_gcd {t b : Int} (h : b ≠ 0) : Nat.gcd (rT t b).natAbs (rB t b).natAbs = 1 := by
  have gp : 0 < Nat.gcd t.natAbs b.natAbs := Nat.gcd_pos_of_pos_right _ (by omega)
  have e1 : (rT t b).natAbs = t.natAbs / Nat.gcd t.natAbs b.natAbs := by
    unfold rT
    split
    · have := natAbs_div (a := -t) gp (Int.dvd_neg.mpr (gc_dvd1 t b))
      rw [Int.natAbs_neg] at this; exact this
    · exact natAbs_div gp (gc_dvd1 t b)
  have e2 : (rB t b).natAbs = b.natAbs / Nat.gcd t.natAbs b.natAbs := by
    unfold rB
    split
    · have := natAbs_div (a := -b) gp (Int.dvd_neg.mpr (gc_dvd2 t b))
      rw [Int.natAbs_neg] at this; exact this
    · exact natAbs_div gp (gc_dvd2 t b)
  rw [e1, e2]
  rw [Nat.gcd_div (Nat.gcd_dvd_left _ _) (Nat.gcd_dvd_right _ _)]
  exact Nat.div_self gp
theorem rat_bd {t b : Int} {n : Nat} (h : b ≠ 0) (ht : Bd n t) : Bd n (rT t b) := by
  obtain ⟨g, hg, e, _⟩ := rat_eqs (t := t) h
  have : t.natAbs = g.natAbs * (rT t b).natAbs := by rw [← Int.natAbs_mul, ← e]
  have hp : 1 ≤ g.natAbs := by omega
  have : (rT t b).natAbs ≤ t.natAbs := by
    rw [this]
    calc (rT t b).natAbs = 1 * (rT t b).natAbs := (Nat.one_mul _).symm
      _ ≤ _ := Nat.mul_le_mul_right _ hp
  unfold Bd at *
  omega
theorem rat_bdB {t b : Int} {n : Nat} (h : b ≠ 0) (ht : Bd n b) : Bd n (rB t b) := by
  obtain ⟨g, hg, _, e, _⟩ := rat_eqs (t := t) h
  have : b.natAbs = g.natAbs * (rB t b).natAbs := by rw [← Int.natAbs_mul, ← e]
  have hp : 1 ≤ g.natAbs := by omega
  have : (rB t b).natAbs ≤ b.natAbs := by
    rw [this]
    calc (rB t b).natAbs = 1 * (rB t b).natAbs := (Nat.one_mul _).symm
      _ ≤ _ := Nat.mul_le_mul_right _ hp
  unfold Bd at *
  omega
/-! ### Euclid's turns -/
def Eu (a k x y : Nat) : Prop := (k = 0 ∧ x < 2 ^ a ∧ y < 2 ^ a) ∨ (1 ≤ k ∧ k ≤ a + a + 1 ∧ y < x ∧ x * y * 2 ^ (k - 1) < 2 ^ (a + a))
theorem Eu.step {a k x y : Nat} (h : Eu a k x y) (hy : 0 < y) : Eu a (k + 1) y (x % y) := by
  have hm := Nat.mod_lt x hy
  rcases h with ⟨rfl, h1, h2⟩ | ⟨h1, h2, h3, h4⟩
  · refine .inr ⟨by omega, by omega, hm, ?_⟩
    rw [show (0 + 1 - 1 : Nat) = 0 from rfl, Nat.pow_zero, Nat.mul_one, Nat.pow_add]
    exact Nat.mul_lt_mul'' h2 (Nat.lt_of_le_of_lt (Nat.mod_le _ _) h1)
  · have hx : 1 ≤ x * y := Nat.mul_pos (by omega) hy
    have l1 : 2 ^ (k - 1) < 2 ^ (a + a) := Nat.lt_of_le_of_lt (by
      calc 2 ^ (k - 1) = 1 * 2 ^ (k - 1) := (Nat.one_mul _).symm
        _ ≤ x * y * 2 ^ (k - 1) := Nat.mul_le_mul_right _ hx) h4
    have l2 : k - 1 < a + a := (Nat.pow_lt_pow_iff_right (by decide)).mp l1
    refine .inr ⟨by omega, by omega, hm, ?_⟩
    have e : 2 ^ (k + 1 - 1) = 2 * 2 ^ (k - 1) := by
      rw [show k + 1 - 1 = (k - 1) + 1 by omega, Nat.pow_succ, Nat.mul_comm]
    have two : 2 * (x % y) ≤ x := by
      have e1 := Nat.div_add_mod x y
      have q : 1 ≤ x / y := (Nat.one_le_div_iff hy).mpr (by omega)
      have : y * 1 ≤ y * (x / y) := Nat.mul_le_mul_left _ q
      omega
    calc y * (x % y) * 2 ^ (k + 1 - 1) = y * (2 * (x % y)) * 2 ^ (k - 1) := by rw [e]; ac_rfl
      _ ≤ y * x * 2 ^ (k - 1) := Nat.mul_le_mul_right _ (Nat.mul_le_mul_left _ two)
      _ = x * y * 2 ^ (k - 1) := by rw [Nat.mul_comm y x]
      _ < _ := h4
theorem Eu.early {a k x y : Nat} (h : Eu a k x y) (hk : a + a + 1 < k) : False := by
  rcases h with ⟨rfl, _⟩ | ⟨_, h, _⟩ <;> omega

/-- lowest terms stay -/
theorem rat_low {t b : Int} (h : 0 < b) (g : Nat.gcd t.natAbs b.natAbs = 1) : rT t b = t ∧ rB t b = b := by
  have e : gc t b = 1 := by
    unfold gc
    rw [g]
    rfl
  unfold rT rB
  rw [if_neg (by omega), if_neg (by omega), e, Int.ediv_one, Int.ediv_one]
  exact ⟨rfl, rfl⟩
structure Lo (a : Nat) (t b : Int) : Prop where
  pos : 0 < b
  gcd : Nat.gcd t.natAbs b.natAbs = 1
  bt : Bd a t
  bb : Bd a b
theorem lo_rat {a : Nat} {t b : Int} (h0 : b ≠ 0) (ht : Bd a t) (hb : Bd a b) : Lo a (rT t b) (rB t b) := by
  obtain ⟨g, _, _, _, hp⟩ := rat_eqs (t := t) h0
  exact ⟨hp, rat_gcd h0, rat_bd h0 ht, rat_bdB h0 hb⟩
/-- the same number, both in lowest terms -/
theorem low_eq {t b x y : Int} (hb : 0 < b) (hy : 0 < y) (g : Nat.gcd t.natAbs b.natAbs = 1) (k : Nat.gcd x.natAbs y.natAbs = 1) (e : t * y = x * b) : t = x ∧ b = y := by
  have e' : t.natAbs * y.natAbs = x.natAbs * b.natAbs := by rw [← Int.natAbs_mul, ← Int.natAbs_mul, e]
  have d1 : b.natAbs ∣ y.natAbs := by
    have : b.natAbs ∣ t.natAbs * y.natAbs := ⟨x.natAbs, by rw [e', Nat.mul_comm]⟩
    exact (Nat.Coprime.symm g).dvd_of_dvd_mul_left this
  have d2 : y.natAbs ∣ b.natAbs := by
    have : y.natAbs ∣ x.natAbs * b.natAbs := ⟨t.natAbs, by rw [← e', Nat.mul_comm]⟩
    exact (Nat.Coprime.symm k).dvd_of_dvd_mul_left this
  have eb : b.natAbs = y.natAbs := Nat.dvd_antisymm d1 d2
  have ey : b = y := by omega
  subst ey
  exact ⟨Int.eq_of_mul_eq_mul_right (by omega) e, rfl⟩
theorem rat_scale {a b k : Int} (hb : b ≠ 0) (hk : k ≠ 0) : rT (a * k) (b * k) = rT a b ∧ rB (a * k) (b * k) = rB a b := by
  have hbk : b * k ≠ 0 := Int.mul_ne_zero hb hk
  obtain ⟨g, hg, e1, e2, p1⟩ := rat_eqs (t := a) hb
  obtain ⟨h, hh, e3, e4, p2⟩ := rat_eqs (t := a * k) hbk
  refine low_eq p2 p1 (rat_gcd hbk) (rat_gcd hb) ?_
  refine Int.eq_of_mul_eq_mul_left (Int.mul_ne_zero hh hg) ?_
  generalize rT (a * k) (b * k) = A at *
  generalize rB (a * k) (b * k) = B at *
  generalize rT a b = P at *
  generalize rB a b = Q at *
  subst e1 e2
  grind
theorem Bd.addS {a b : Nat} {x y : Int} (h : Bd a x) (k : Bd b y) : Bd (a + b + 1) (x + y) := (h.mono (Nat.le_add_right a b)).add (k.mono (Nat.le_add_left b a))
theorem Bd.subS {a b : Nat} {x y : Int} (h : Bd a x) (k : Bd b y) : Bd (a + b + 1) (x - y) := (h.mono (Nat.le_add_right a b)).sub (k.mono (Nat.le_add_left b a))
theorem Ws.cut {W : WX} {E : ET} {t : TS} {r : Rho} {m : Mu} {P : DEnds} (I : Rho → Mu → Prop) (h : Ws W E t r m { P with nx := I }) (k : ∀ r' m', I r' m' → P.nx r' m') : Ws W E t r m P := fun s H De e z g =>
  h s H De e z ⟨fun r' m' s' H' a b q => g.nx r' m' s' H' a b (k r' m' q), g.rt, g.bk, g.ct⟩
end DL
set_option Elab.async false
set_option linter.all false
set_option maxRecDepth 100000
/-! DL10: short words for methods and own operators. -/
namespace DL
open PySem PySem.Spec L2
open PyProof.Rows hiding St
section
variable {W : WX} {E : ET} {r : Rho} {m : Mu} {K : KT} {G : Gx} {t : TA} {j k n : Nat} {C : Addr} {ns : List Str} {ds : List D} {S : SpecD} {dd : List D} {mt : Str}
theorem mt_of (M : Met G k C ns mt n S dd) (cs : dd.all isC = true) (hk : k ≤ j) (h : Wa W E t r m fun es m2 => (D.ins C ns ds :: (es ++ dd)).length = n ∧ S (D.ins C ns ds :: (es ++ dd)) m2 K fun x m' => E x r m') :
    ∃ (k n : Nat) (C' : Addr) (ns' : List Str) (S : SpecD) (dd : List D), Met G k C' ns' mt n S dd ∧ dd.all isC = true ∧ k ≤ j ∧ InsD (D.ins C ns ds) m C' ns' ∧
    Wa W E t r m fun es m2 => (D.ins C ns ds :: (es ++ dd)).length = n ∧ S (D.ins C ns ds :: (es ++ dd)) m2 K fun x m' => E x r m' := ⟨k, n, C, ns, S, dd, M, cs, hk, .fixed, h⟩
theorem mt_of0 (M : Met G k C ns mt n S []) (hk : k ≤ j) (h : Wa W E t r m fun es m2 => es.length + 1 = n ∧ S (D.ins C ns ds :: es) m2 K fun x m' => E x r m') :
    ∃ (k n : Nat) (C' : Addr) (ns' : List Str) (S : SpecD) (dd : List D), Met G k C' ns' mt n S dd ∧ dd.all isC = true ∧ k ≤ j ∧ InsD (D.ins C ns ds) m C' ns' ∧
    Wa W E t r m fun es m2 => (D.ins C ns ds :: (es ++ dd)).length = n ∧ S (D.ins C ns ds :: (es ++ dd)) m2 K fun x m' => E x r m' :=
  mt_of M rfl hk (h.imp fun es m2 k => by
    rw [List.append_nil]
    exact k)
variable {d d' : D} {ns' : List Str} {ds' : List D}
theorem w1_negO (O : Opr G k C "__neg__" 1 S) (hk : k ≤ j) (i : FldD d m C ns ds) (h : S [d] m K fun x m' => E x r m') : W1 W E (oNeg G j W) d r m K := fun s H Q v e z rv g => .inr (w1_own O hk i h s H Q v e z rv g)
theorem w2_addO (O : Opr G k C "__add__" 2 S) (hk : k ≤ j) (i : FldD d m C ns ds) (i' : FldD d' m C ns' ds') (h : S [d, d'] m K fun x m' => E x r m') : W2 W E (oAdd G j W) d d' r m K := fun s H Q a b e z ra rb g => .inr (.inr (.inr (.inr (w2_own O hk i i' h s H Q a b e z ra rb g))))
theorem w2_subO (O : Opr G k C "__sub__" 2 S) (hk : k ≤ j) (i : FldD d m C ns ds) (i' : FldD d' m C ns' ds') (h : S [d, d'] m K fun x m' => E x r m') : W2 W E (oSub G j W) d d' r m K := fun s H Q a b e z ra rb g => .inr (w2_own O hk i i' h s H Q a b e z ra rb g)
theorem w2_mulO (O : Opr G k C "__mul__" 2 S) (hk : k ≤ j) (i : FldD d m C ns ds) (i' : FldD d' m C ns' ds') (h : S [d, d'] m K fun x m' => E x r m') : W2 W E (oMul G j W) d d' r m K := fun s H Q a b e z ra rb g => .inr (.inr (w2_own O hk i i' h s H Q a b e z ra rb g))
end
end DL
set_option Elab.async false
set_option linter.all false
set_option maxRecDepth 100000
/-! DL11: tests within an except suite; what isinstance and except answer of own classes. -/
namespace DL
open PySem PySem.Spec L2
open PyProof.Rows hiding St
theorem pt_trS {X : Cx} {a : Addr} {pn : List (Addr × Obj)} {e : Expr} {te : TE} (ha : PE (X.suite a pn) e te) (he : ∀ whole, isTrue e (X.suite a pn).env whole = (do let v ← whole; standAt e.pos; holding [v] (truthy v)) := by intro _; rfl) : PT (X.suite a pn) e (tTr X.K te) := pt_tr ha he
theorem pe_isE {X : Cx} {a : Addr} {cls : Value} {d : Option Addr} {oe : Obj} {pn : List (Addr × Obj)} {e : Expr} {es : List Expr} {t : TA} {p pos : Pos} (hz : L2N.Zn cls d oe) (hf : ∃ vs, oe.data = .fields vs) (hm : X.mg "isinstance" = none) (ha : PA (X.suite a ((a, oe) :: pn)) (e :: es) t)
    (hg : Gl (X.suite a ((a, oe) :: pn)) "isinstance" := by rfl)
    (he : starEach (e :: es) X.env = (false, eval e X.env) :: starEach es X.env := by rfl) (hpl : (backTo pos (starEach es X.env)).any (·.1) = false := by rfl) : PE (X.suite a ((a, oe) :: pn)) (.Call (.Name "isinstance" p) (e :: es) [] pos) (tC2 (cIsE X.K a cls d) t) :=
  pe_cb (cs_isE hz hf) hg hm (by decide +kernel) ha (by decide) (by decide) he hpl
section
variable {K : PySem.W.Frag} {S O : Addr}
theorem kit_self : PySem.W.kitOne K (.ref S) (.ref S) = some true := by
  unfold PySem.W.kitOne
  rw [if_pos]
  simp
theorem kit_no (hx : PySem.W.subIn K (.ref S) (.ref S) = some true) (h2 : PySem.W.isClsIn K O = true) (h3 : PySem.W.typeIn K (.ref O) = some (.type "type")) (h4 : PySem.W.subIn K (.ref S) (.ref O) = some false) : PySem.W.kitOne K (.ref S) (.ref O) = some false := by
  have ne : ¬ ((Value.ref S == Value.ref O) = true) := fun z => by
    have e : S = O := by simpa using z
    subst e
    rw [hx] at h4
    cases h4
  have e2 : ((PySem.W.clsIn K O).isSome && PySem.W.typeIn K (.ref O) == some (.type "type")) = true := by
    have h2' : (PySem.W.clsIn K O).isSome = true := h2
    rw [h2', h3] <;> rfl
  unfold PySem.W.kitOne
  rw [if_neg ne]
  show (if ((PySem.W.clsIn K O).isSome && PySem.W.typeIn K (.ref O) == some (.type "type")) = true then PySem.W.subIn K (.ref S) (.ref O) else none) = some false
  rw [if_pos e2]
  exact h4
theorem kit_val (h : PySem.W.subIn K (.ref S) (.type "ValueError") = some true) : PySem.W.kitOne K (.ref S) (.type "ValueError") = some true := h
end
end DL
set_option Elab.async false
set_option linter.all false
set_option maxRecDepth 100000
/-! DL12: in, by an own __contains__. -/
namespace DL
open PySem PySem.Spec L2
open PyProof.Rows hiding St
section
variable {X : Cx} {W : WX} {E : ET} {r : Rho} {m : Mu} {K : KT} {G : Gx} {j k : Nat} {C : Addr} {ns : List Str} {ds : List D} {S : SpecD} {d d' : D}
def oInO (G : Gx) (j : Nat) (W : WX) : O2 := fun x y σ H Q => ∃ (a C dx : Addr) (fs : List (Str × V)) (k : Nat) (S : SpecD), y = .ref a ∧ H a = some (.ins C dx fs) ∧ k ≤ j ∧ Opr G k C "__contains__" 2 S ∧ spD 2 S [y, x] H (fun v H' => ∃ b, v = .bl b ∧ Q (.bl b) H') (WE W σ)
theorem os_inO (hr : Room j X.A) (tk : L2N.Takes X W) : OpS X (compareOp .In) (oInO (Gx.of X) j W) := by
  intro pins s σ H x y u v Q I rx ry h
  obtain ⟨a, C, dx, fs, k, S, rfl, ha, hk, O, q⟩ := h
  obtain rfl : v = Value.ref a := ry
  obtain ⟨f, ⟨⟨fd, ps, ds, F, bd, d⟩, cs⟩, h1, h2⟩ := O.ex
  obtain ⟨od, J⟩ := inst_of I ha
  obtain ⟨m, fr⟩ := I.fr
  refine PySem.W.in_K fr I.ok.mod.kin J h1 h2 ?_
  refine wpAny_mono (run_fnSD (E := WE W) (us := [.ref a, u]) (vs := [.ref a, x]) F (hr.mono hk) bd d (L2N.passAt tk σ) I (.cons rfl (.cons rx .nil)) q) (fun w s' hq => ?_) fun _ _ z => z
  obtain ⟨v', H1, I1, r1, b, rfl, q1⟩ := hq
  cases r1
  exact wpAny_truthy_bool ⟨.bl b, H1, I1, rfl, q1⟩
theorem w2_inO {d d' : D} (O : Opr G k C "__contains__" 2 S) (hk : k ≤ j) (i : FldD d' m C ns ds) (h : S [d', d] m (fun x m' => ∃ b, x = .bl b ∧ K (.bl b) m') fun x m' => E x r m') : W2 W E (oInO G j W) d d' r m K := fun s H Q a b e z ra rb g => by
  obtain ⟨p, dx, gs, rfl, hp, _⟩ := i.look e.mu rb
  refine ⟨p, C, dx, gs, k, S, rfl, hp, hk, O, spD_of rfl e z (fun d m' v H' s1 mu1 r1 q => ?_) (.cons rb (.cons ra .nil)) h fun _ _ q => q⟩
  obtain ⟨b, rfl, q⟩ := q
  cases r1
  exact ⟨b, rfl, g _ m' _ H' s1 mu1 (.bl b) q⟩
end
end DL
namespace DL
open PySem PySem.Spec L2
open PyProof.Rows hiding St
/-! ==, by an own __eq__ (both of the class) -/
section
variable {X : Cx} {W : WX} {E : ET} {r : Rho} {m : Mu} {K : KT} {G : Gx} {j k : Nat} {C : Addr} {ns ns' : List Str} {ds ds' : List D} {S : SpecD} {d d' : D}
structure OprEq (G : Gx) (k : Nat) (C : Addr) (S : SpecD) : Prop where
  o : Opr G k C "__eq__" 2 S
  nf : PySem.W.notFirst G.K C (.ref C) = true
def oEqO (G : Gx) (j : Nat) (W : WX) : O2 := fun x y σ H Q => ∃ (a b C dx dy : Addr) (fs gs : List (Str × V)) (k : Nat) (S : SpecD), x = .ref a ∧ y = .ref b ∧ H a = some (.ins C dx fs) ∧ H b = some (.ins C dy gs) ∧ k ≤ j ∧ OprEq G k C S ∧ spD 2 S [x, y] H Q (WE W σ)
theorem os_eqO (hr : Room j X.A) (tk : L2N.Takes X W) : OpS X (compareOp .Eq) (oEqO (Gx.of X) j W) := by
  intro pins s σ H x y u v Q I rx ry h
  obtain ⟨a, b, C, dx, dy, fs, gs, k, S, rfl, rfl, ha, hb, hk, O, q⟩ := h
  obtain rfl : u = Value.ref a := rx
  obtain rfl : v = Value.ref b := ry
  obtain ⟨f, ⟨⟨fd, ps, ds, F, bd, d⟩, cs⟩, h1, h2⟩ := O.o.ex
  obtain ⟨od, J⟩ := inst_of I ha
  obtain ⟨od', J'⟩ := inst_of I hb
  obtain ⟨m, fr⟩ := I.fr
  show wpAny (model X.prog X.w) X.A (richCompare .Eq (.ref a) (.ref b)) (EP X pins σ Q) X.xe s
  refine PySem.W.cmp_K (Nat.lt_of_succ_lt (hu_of hr)) fr I.ok.mod.kin J J'.type O.nf h1 h2 ?_
  exact wpAny_mono (run_fnSD (E := WE W) (us := [.ref a, .ref b]) (vs := [.ref a, .ref b]) F (hr.mono hk) bd d (L2N.passAt tk σ) I (.cons rfl (.cons rfl .nil)) q) (fun r s' hq => back_of hq) fun _ _ z => z
theorem w2_eqO (O : OprEq G k C S) (hk : k ≤ j) (i : FldD d m C ns ds) (i' : FldD d' m C ns' ds') (h : S [d, d'] m K fun x m' => E x r m') : W2 W E (oEqO G j W) d d' r m K := fun s H Q a b e z ra rb g => by
  obtain ⟨p, dx, gs, rfl, hp, _⟩ := i.look e.mu ra
  obtain ⟨p', dx', gs', rfl, hp', _⟩ := i'.look e.mu rb
  exact ⟨p, p', C, dx, dx', gs, gs', k, S, rfl, rfl, hp, hp', hk, O, spD_of rfl e z g (.cons ra (.cons rb .nil)) h fun _ _ q => q⟩
end
end DL
namespace DL
open PySem PySem.Spec L2
open PyProof.Rows hiding St
theorem pe_fldK {X : Cx} {KK : PySem.W.Frag} {e : Expr} {ta : TE} {f : Str} {pos : Pos} (hk : X.K = KK) (he : PE X e ta) (hb : attributeBase e f X.env (eval e X.env) = eval e X.env) : PE X (.Attribute e f pos) (tFld KK ta f) := by
  subst hk
  exact pe_fld he hb
section
variable {X : Cx} {W : WX} {mt : Str} {j : Nat} {e o : Expr} {es : List Expr} {t : TA} {to : TE} {pos apos : Pos}
theorem pe_mthG {pl : Sem Bool} (G : Gx) (hG : Gx.of X = G) (hr : Room j X.A) (tk : L2N.Takes X W) (he : PE X o to) (ha : PA X (e :: es) t)
    (hst : starEach (e :: es) X.env = (false, eval e X.env) :: starEach es X.env := by rfl) (hpl : (backTo pos (starEach es X.env)).any (·.1) = false := by rfl)
    (ht : eval (.Call (.Attribute o mt apos) (e :: es) [] pos) X.env = (do
      let ov ← eval o X.env
      standAt apos.atName
      let (f, first) ← holding [ov] (getMethod ov mt pl)
      callWith pos f first (backTo pos (starEach (e :: es) X.env)) (backToKw pos (keywordEach [] X.env))) := by rfl) :
    PE X (.Call (.Attribute o mt apos) (e :: es) [] pos) (tMt G j W mt to t) := by
  subst hG
  exact pe_mth hr tk he ha hst hpl ht
theorem pe_mth0G {pl : Sem Bool} (G : Gx) (hG : Gx.of X = G) (hr : Room j X.A) (tk : L2N.Takes X W) (he : PE X o to)
    (ht : eval (.Call (.Attribute o mt apos) [] [] pos) X.env = (do
      let ov ← eval o X.env
      standAt apos.atName
      let (f, first) ← holding [ov] (getMethod ov mt pl)
      callWith pos f first (backTo pos (starEach [] X.env)) (backToKw pos (keywordEach [] X.env))) := by rfl) :
    PE X (.Call (.Attribute o mt apos) [] [] pos) (tMt G j W mt to tNil) := by
  subst hG
  exact pe_mth0 hr tk he ht
end
end DL
set_option Elab.async false
set_option linter.all false
/-! MQ: a Ratio by its number (Lean's own Rat). -/
namespace DL
open PySem PySem.Spec L2
abbrev dv (t b : Int) : Rat := Rat.divInt t b
/-- a Ratio, by its number -/
abbrev rq (C : Addr) (x : Rat) : D := rat C x.num (x.den : Int)
structure Qb (n : Nat) (x : Rat) : Prop where
  t : Bd n x.num
  b : Bd n (x.den : Int)
theorem Qb.mono {a b : Nat} {x : Rat} (h : Qb a x) (l : a ≤ b) : Qb b x := ⟨h.1.mono l, h.2.mono l⟩
theorem den_pos (x : Rat) : 0 < (x.den : Int) := by have := x.den_nz; omega
theorem den_ne (x : Rat) : (x.den : Int) ≠ 0 := by have := x.den_nz; omega
theorem rT_dv {t b : Int} (h : b ≠ 0) : rT t b = (dv t b).num ∧ rB t b = ((dv t b).den : Int) := by
  obtain ⟨g, hg, e1, e2, hp⟩ := rat_eqs (t := t) h
  have e3 : dv t b = Rat.divInt (rT t b) (rB t b) := by
    have := Rat.divInt_mul_left (n := rT t b) (d := rB t b) hg
    rw [← e1, ← e2] at this
    exact this
  have hB : ((rB t b).toNat : Int) = rB t b := by omega
  have e4 : Rat.divInt (rT t b) (rB t b) = (⟨rT t b, (rB t b).toNat, by omega, by
      have := rat_gcd (t := t) h
      have e : (rB t b).natAbs = (rB t b).toNat := by omega
      rw [e] at this
      exact this⟩ : Rat) := by
    rw [Rat.mk_eq_divInt, hB]
  rw [e3, e4]
  exact ⟨rfl, hB.symm⟩
theorem rq_of {C : Addr} {t b : Int} (h : b ≠ 0) : rat C (rT t b) (rB t b) = rq C (dv t b) := by
  rw [(rT_dv h).1, (rT_dv h).2]
theorem qb_of {n : Nat} {t b : Int} (h : b ≠ 0) (ht : Bd n t) (hb : Bd n b) : Qb n (dv t b) := by
  have q1 := rat_bd h ht
  have q2 := rat_bdB (t := t) h hb
  rw [(rT_dv h).1] at q1
  rw [(rT_dv h).2] at q2
  exact ⟨q1, q2⟩
theorem dv_self (x : Rat) : dv x.num x.den = x := Rat.num_divInt_den x
theorem dv_pair {t b : Int} (h : 0 < b) : (dv t b).num * b = t * ((dv t b).den : Int) := by
  obtain ⟨g, hg, e1, e2, hp⟩ := rat_eqs (t := t) (b := b) (by omega)
  have r := rT_dv (t := t) (b := b) (by omega)
  rw [← r.1, ← r.2]
  generalize rT t b = P at *
  generalize rB t b = Q at *
  subst e1 e2
  ac_rfl
theorem dv_eq {a b c d : Int} (hb : b ≠ 0) (hd : d ≠ 0) : dv a b = dv c d ↔ a * d = c * b := Rat.divInt_eq_divInt_iff hb hd
theorem add_dv {a b c d : Int} (hb : b ≠ 0) (hd : d ≠ 0) : dv a b + dv c d = dv (a * d + c * b) (b * d) := Rat.divInt_add_divInt _ _ hb hd
theorem sub_dv {a b c d : Int} (hb : b ≠ 0) (hd : d ≠ 0) : dv a b - dv c d = dv (a * d - c * b) (b * d) := Rat.divInt_sub_divInt _ _ hb hd
theorem mul_dv {a b c d : Int} : dv a b * dv c d = dv (a * c) (b * d) := Rat.divInt_mul_divInt _ _
theorem neg_dv {a b : Int} : -dv a b = dv (-a) b := Rat.neg_divInt _ _
theorem dv_scale {a b k : Int} (hk : k ≠ 0) : dv (a * k) (b * k) = dv a b := Rat.divInt_mul_right hk
theorem inv_dv {a b : Int} : (dv a b)⁻¹ = dv b a := by
  by_cases hb : b = 0
  · subst hb
    rw [show dv a 0 = 0 from Rat.divInt_zero a, show dv 0 a = 0 from Rat.zero_divInt a, Rat.inv_zero]
  by_cases ha : a = 0
  · subst ha
    rw [show dv b 0 = 0 from Rat.divInt_zero b, show dv 0 b = 0 from Rat.zero_divInt b, Rat.inv_zero]
  refine Rat.inv_eq_of_mul_eq_one ?_
  rw [mul_dv, Int.mul_comm a b]
  exact Rat.divInt_self' (Int.mul_ne_zero hb ha)
theorem lt_dv {a b c d : Int} (hb : 0 < b) (hd : 0 < d) : dv a b < dv c d ↔ a * d < c * b := by
  rw [Rat.lt_iff]
  have e1 := dv_pair (t := a) hb
  have e2 := dv_pair (t := c) hd
  have p1 := den_pos (dv a b)
  have p2 := den_pos (dv c d)
  generalize (dv a b).num = A at *
  generalize ((dv a b).den : Int) = B at *
  generalize (dv c d).num = C at *
  generalize ((dv c d).den : Int) = D at *
  have k : 0 < b * d := Int.mul_pos hb hd
  have k2 : 0 < B * D := Int.mul_pos p1 p2
  have x1 : A * D * (b * d) = (a * d) * (B * D) := by
    calc A * D * (b * d) = (A * b) * (D * d) := by ac_rfl
      _ = _ := by rw [e1]; ac_rfl
  have x2 : C * B * (b * d) = (c * b) * (B * D) := by
    calc C * B * (b * d) = (C * d) * (B * b) := by ac_rfl
      _ = _ := by rw [e2]; ac_rfl
  constructor
  · intro h
    have := Int.mul_lt_mul_of_pos_right h k
    rw [x1, x2] at this
    exact Int.lt_of_mul_lt_mul_right this (Int.le_of_lt k2)
  · intro h
    have := Int.mul_lt_mul_of_pos_right h k2
    rw [← x1, ← x2] at this
    exact Int.lt_of_mul_lt_mul_right this (Int.le_of_lt k)
theorem le_dv {a b c d : Int} (hb : 0 < b) (hd : 0 < d) : dv a b ≤ dv c d ↔ a * d ≤ c * b := by
  rw [← Rat.not_lt, lt_dv hd hb]
  omega
theorem lt_q {x y : Rat} : x.num * y.den < y.num * x.den ↔ x < y := (Rat.lt_iff x y).symm
theorem num_neg_iff {x : Rat} : x.num < 0 ↔ x < 0 := by
  rw [← lt_q (x := x) (y := 0)]
  show _ ↔ x.num * ((1 : Nat) : Int) < 0 * x.den
  omega
theorem num_pos_iff {x : Rat} : 0 < x.num ↔ 0 < x := by
  rw [← lt_q (x := 0) (y := x)]
  show _ ↔ 0 * (x.den : Int) < x.num * ((1 : Nat) : Int)
  omega
theorem dv_pos {t b : Int} (hb : 0 < b) : 0 < dv t b ↔ 0 < t := by
  have := lt_dv (a := 0) (b := 1) (c := t) (d := b) (by decide) hb
  rw [show dv 0 1 = 0 from rfl] at this
  rw [this]; omega
theorem dv_neg {t b : Int} (hb : 0 < b) : dv t b < 0 ↔ t < 0 := by
  have := lt_dv (a := t) (b := b) (c := 0) (d := 1) hb (by decide)
  rw [show dv 0 1 = 0 from rfl] at this
  rw [this]; omega
theorem dv_nonneg {t b : Int} (hb : 0 < b) : 0 ≤ dv t b ↔ 0 ≤ t := by
  rw [← Rat.not_lt, dv_neg hb]; omega
theorem dv_nonpos {t b : Int} (hb : 0 < b) : dv t b ≤ 0 ↔ t ≤ 0 := by
  rw [← Rat.not_lt, dv_pos hb]; omega
theorem dv_zero {t b : Int} (hb : b ≠ 0) : dv t b = 0 ↔ t = 0 := by
  have := dv_eq (a := t) (b := b) (c := 0) (d := 1) hb (by decide)
  rw [show dv 0 1 = 0 from rfl] at this
  rw [this]; omega
/-! ### the program's own formulas -/
theorem q_add {x y : Rat} : dv (x.num * y.den + y.num * x.den) (x.den * y.den) = x + y := by
  have := add_dv (a := x.num) (c := y.num) (den_ne x) (den_ne y)
  rw [dv_self, dv_self] at this
  exact this.symm
theorem q_sub {x y : Rat} : dv (x.num * y.den - y.num * x.den) (x.den * y.den) = x - y := by
  have := sub_dv (a := x.num) (c := y.num) (den_ne x) (den_ne y)
  rw [dv_self, dv_self] at this
  exact this.symm
theorem q_mul {x y : Rat} : dv (x.num * y.num) (x.den * y.den) = x * y := by
  have := mul_dv (a := x.num) (b := x.den) (c := y.num) (d := y.den)
  rw [dv_self, dv_self] at this
  exact this.symm
theorem q_neg {x : Rat} : dv (-x.num) x.den = -x := by
  have := neg_dv (a := x.num) (b := x.den)
  rw [dv_self] at this
  exact this.symm
theorem q_div {x y : Rat} : dv (x.num * y.den) (x.den * y.num) = x / y := by
  have := mul_dv (a := x.num) (b := x.den) (c := y.den) (d := y.num)
  rw [← inv_dv (a := y.num), dv_self, dv_self] at this
  exact this.symm
theorem num_ne {x : Rat} (h : x ≠ 0) : x.num ≠ 0 := fun z => h (Rat.num_eq_zero.mp z)
theorem qb_add {a b : Nat} {x y : Rat} (h : Qb a x) (k : Qb b y) : Qb (a + b + 1) (x + y) := by
  rw [← q_add]
  exact qb_of (Int.mul_ne_zero (den_ne x) (den_ne y)) (((h.1.mul k.2)).add ((k.1.mul h.2).mono (Nat.le_of_eq (Nat.add_comm _ _)))) ((h.2.mul k.2).mono (by omega))
theorem qb_sub {a b : Nat} {x y : Rat} (h : Qb a x) (k : Qb b y) : Qb (a + b + 1) (x - y) := by
  rw [← q_sub]
  exact qb_of (Int.mul_ne_zero (den_ne x) (den_ne y)) (((h.1.mul k.2)).sub ((k.1.mul h.2).mono (Nat.le_of_eq (Nat.add_comm _ _)))) ((h.2.mul k.2).mono (by omega))
theorem qb_mul {a b : Nat} {x y : Rat} (h : Qb a x) (k : Qb b y) : Qb (a + b) (x * y) := by
  rw [← q_mul]
  exact qb_of (Int.mul_ne_zero (den_ne x) (den_ne y)) (h.1.mul k.1) (h.2.mul k.2)
theorem qb_div {a b : Nat} {x y : Rat} (h : Qb a x) (k : Qb b y) (n : y ≠ 0) : Qb (a + b) (x / y) := by
  rw [← q_div]
  exact qb_of (Int.mul_ne_zero (den_ne x) (num_ne n)) (h.1.mul k.2) (h.2.mul k.1)
theorem q_inv {x : Rat} : 1 / x = dv x.den x.num := by
  have := inv_dv (a := x.num) (b := x.den)
  rw [dv_self] at this
  rw [← this, Rat.div_def, Rat.one_mul]
theorem qb_inv {a : Nat} {x : Rat} (h : Qb a x) (n : x ≠ 0) : Qb a (1 / x) := by
  rw [q_inv]
  exact qb_of (num_ne n) h.2 h.1
theorem qb_neg {a : Nat} {x : Rat} (h : Qb a x) : Qb a (-x) := by
  rw [← q_neg]
  exact qb_of (den_ne x) h.1.neg h.2
theorem qb_one {n : Nat} : Qb (n + 1) 1 := by
  have : Bd (n + 1) 1 := (bd_lit (n := 1) (by decide)).mono (by omega)
  exact ⟨this, this⟩
/-! ### compare, least, greatest -/
def cq (x y : Rat) : Int := if x < y then -1 else if y < x then 1 else 0
def qmin (x y : Rat) : Rat := if y < x then y else x
def qmax (x y : Rat) : Rat := if x < y then y else x
theorem cq_pos {x y : Rat} : 0 < cq x y ↔ y < x := by
  unfold cq
  split
  · constructor <;> intro h
    · omega
    · exact absurd (Rat.le_of_lt h) (Rat.not_le.mpr ‹_›)
  · split
    · simp_all
    · simp_all
theorem cq_neg {x y : Rat} : cq x y < 0 ↔ x < y := by
  unfold cq
  split
  · simp_all
  · split
    · simp_all
    · simp_all
theorem cq_le {x y : Rat} : cq x y ≤ 0 ↔ x ≤ y := by
  rw [← Int.not_lt, cq_pos, Rat.not_lt]
theorem cq_ge {x y : Rat} : 0 ≤ cq x y ↔ y ≤ x := by
  rw [← Int.not_lt, cq_neg, Rat.not_lt]
theorem qmin_qb {a : Nat} {x y : Rat} (h : Qb a x) (k : Qb a y) : Qb a (qmin x y) := by
  unfold qmin
  split <;> assumption
theorem qmax_qb {a : Nat} {x y : Rat} (h : Qb a x) (k : Qb a y) : Qb a (qmax x y) := by
  unfold qmax
  split <;> assumption
end DL
set_option Elab.async false
set_option linter.all false
set_option maxRecDepth 100000
/-! DQ: Ratio and Span by numbers: what their methods promise. -/
namespace DL
open PySem PySem.Spec L2
open PyProof.Rows hiding St
/-! ### Ratio -/
def S_init (C : Addr) : SpecD := fun ds m K _ => ∃ x m0 t b, ds = [.ref x, .int t, .int b] ∧ m = (x, .ins C [] []) :: m0 ∧ b ≠ 0 ∧ Bd 8000 b ∧ K .non ((x, .ins C ["top", "bottom"] [.int (rT t b), .int (rB t b)]) :: m0)
structure RatQ (b : Int) (K : Prop) : Prop where
  nz : b ≠ 0
  bd : Bd 8000 b
  k : K
section
variable {W : WX} {E : ET} {ta : TA} {r : Rho} {m : Mu} {K : KT} {C S : Addr}
theorem we_ratQ (h : Wa W E ta r m fun ds m1 => ∃ p q, ds = [.int p, .int q] ∧ RatQ q (K (rq C (dv p q)) m1)) : We W E (tMk C 3 (S_init C) [] W ta) r m K :=
  we_mk0 (h.imp fun ds m1 ⟨p, q, e, h0, hb, k⟩ => by
    subst e
    exact ⟨rfl, fun x _ => ⟨x, m1, p, q, rfl, rfl, h0, hb, _, _, rfl, rfl, by rw [(rT_dv h0).1, (rT_dv h0).2]; exact k⟩⟩)
theorem we_ratQ1 (h : Wa W E ta r m fun ds m1 => ∃ p, ds = [.int p] ∧ K (rq C (p : Rat)) m1) : We W E (tMk C 3 (S_init C) [.int 1] W ta) r m K :=
  we_mk1 rfl (h.imp fun ds m1 ⟨p, e, k⟩ => by
    subst e
    have e1 : rT p 1 = p := (rat_low (by decide) (Nat.gcd_one_right _)).1
    have e2 : rB p 1 = 1 := (rat_low (t := p) (by decide) (Nat.gcd_one_right _)).2
    exact ⟨rfl, fun x _ => ⟨x, m1, p, 1, rfl, rfl, by decide, bd_lit (by decide), _, _, rfl, rfl, by rw [e1, e2]; exact k⟩⟩)
def S_q2 (C : Addr) (f : Rat → Rat → Rat) : SpecD := fun ds m K _ => ∃ x y, ds = [rq C x, rq C y] ∧ Qb 3900 x ∧ Qb 3900 y ∧ K (rq C (f x y)) m
def S_qadd (C : Addr) : SpecD := S_q2 C (fun x y => x + y)
def S_qsub (C : Addr) : SpecD := S_q2 C (fun x y => x - y)
def S_qmul (C : Addr) : SpecD := S_q2 C (fun x y => x * y)
def S_qleast (C : Addr) : SpecD := S_q2 C qmin
def S_qgreat (C : Addr) : SpecD := S_q2 C qmax
def S_qdiv (C : Addr) : SpecD := fun ds m K _ => ∃ x y, ds = [rq C x, rq C y] ∧ Qb 3900 x ∧ Qb 3900 y ∧ y ≠ 0 ∧ K (rq C (x / y)) m
def S_qneg (C : Addr) : SpecD := fun ds m K _ => ∃ x, ds = [rq C x] ∧ Qb 3900 x ∧ K (rq C (-x)) m
def S_qcmp (C : Addr) : SpecD := fun ds m K _ => ∃ x y, ds = [rq C x, rq C y] ∧ Qb 3900 x ∧ Qb 3900 y ∧ K (.int (cq x y)) m
def S_qsign (C : Addr) : SpecD := fun ds m K _ => ∃ x, ds = [rq C x] ∧ K (.int (cq x 0)) m
variable {F : Ex → Mu → Prop} {x y x0 x1 y0 y1 : Rat}
theorem use_qadd (h : Qb 3900 x) (k : Qb 3900 y) (q : K (rq C (x + y)) m) : S_qadd C [rq C x, rq C y] m K F := ⟨x, y, rfl, h, k, q⟩
theorem use_qsub (h : Qb 3900 x) (k : Qb 3900 y) (q : K (rq C (x - y)) m) : S_qsub C [rq C x, rq C y] m K F := ⟨x, y, rfl, h, k, q⟩
theorem use_qmul (h : Qb 3900 x) (k : Qb 3900 y) (q : K (rq C (x * y)) m) : S_qmul C [rq C x, rq C y] m K F := ⟨x, y, rfl, h, k, q⟩
theorem use_qleast (h : Qb 3900 x) (k : Qb 3900 y) (q : K (rq C (qmin x y)) m) : S_qleast C [rq C x, rq C y] m K F := ⟨x, y, rfl, h, k, q⟩
theorem use_qgreat (h : Qb 3900 x) (k : Qb 3900 y) (q : K (rq C (qmax x y)) m) : S_qgreat C [rq C x, rq C y] m K F := ⟨x, y, rfl, h, k, q⟩
theorem use_qdiv (h : Qb 3900 x) (k : Qb 3900 y) (n : y ≠ 0) (q : K (rq C (x / y)) m) : S_qdiv C [rq C x, rq C y] m K F := ⟨x, y, rfl, h, k, n, q⟩
theorem use_qneg (h : Qb 3900 x) (q : K (rq C (-x)) m) : S_qneg C [rq C x] m K F := ⟨x, rfl, h, q⟩
theorem use_qcmp (h : Qb 3900 x) (k : Qb 3900 y) (q : K (.int (cq x y)) m) : S_qcmp C [rq C x, rq C y] m K F := ⟨x, y, rfl, h, k, q⟩
theorem use_qsign (q : K (.int (cq x 0)) m) : S_qsign C [rq C x] m K F := ⟨x, rfl, q⟩
/-! ### Span -/
abbrev spn (S C : Addr) (x y : Rat) : D := .ins S ["low", "high"] [rq C x, rq C y]
theorem fix_lo {a b : D} : fix "low" ["low", "high"] [a, b] = some a := by simp [fix]
theorem nhl : ¬ (("high" : Str) = "low") := by decide +kernel
theorem fix_hi {a b : D} : fix "high" ["low", "high"] [a, b] = some b := by simp [fix, nhl]
structure SpnC (K : PySem.W.Frag) (C : Addr) : Prop where
  ins : InsK K C
  al : NoAttr K C "low"
  ah : NoAttr K C "high"
section
variable {K : PySem.W.Frag} {KK : D → Prop} {C : Addr} {a b : D}
theorem fld_low (R : SpnC K C) (h : KK a) : ∃ C' ns ds x, D.ins C ["low", "high"] [a, b] = .ins C' ns ds ∧ Cls K C' ∧ NoAttr K C' "low" ∧ fix "low" ns ds = some x ∧ KK x := ⟨_, _, _, _, rfl, R.ins.cl, R.al, fix_lo, h⟩
theorem fld_high (R : SpnC K C) (h : KK b) : ∃ C' ns ds x, D.ins C ["low", "high"] [a, b] = .ins C' ns ds ∧ Cls K C' ∧ NoAttr K C' "high" ∧ fix "high" ns ds = some x ∧ KK x := ⟨_, _, _, _, rfl, R.ins.cl, R.ah, fix_hi, h⟩
variable {m0 : Mu} {x : Addr} {d e : D} {N : Mu → Prop}
theorem cont_lh : (["low"] : List Str).contains "high" = false := by decide +kernel
theorem setN_low (R : SpnC K C) (h : N ((x, .ins C ["low"] [d]) :: m0)) : ∃ p C' ns ds m3, D.ref x = .ref p ∧ At ((x, MO.ins C [] []) :: m0) p (.ins C' ns ds) ∧ Cls K C' ∧ NoAttr K C' "low" ∧ ns.contains "low" = false ∧ Nat.ble ns.length 900 = true ∧ Put ((x, MO.ins C [] []) :: m0) p (.ins C' (ns ++ [("low" : Str)]) (ds ++ [d])) m3 ∧ N m3 :=
  ⟨_, _, _, _, _, rfl, .head, R.ins.cl, R.al, rfl, rfl, .head, h⟩
theorem setN_high (R : SpnC K C) (h : N ((x, .ins C ["low", "high"] [d, e]) :: m0)) : ∃ p C' ns ds m3, D.ref x = .ref p ∧ At ((x, MO.ins C ["low"] [d]) :: m0) p (.ins C' ns ds) ∧ Cls K C' ∧ NoAttr K C' "high" ∧ ns.contains "high" = false ∧ Nat.ble ns.length 900 = true ∧ Put ((x, MO.ins C ["low"] [d]) :: m0) p (.ins C' (ns ++ [("high" : Str)]) (ds ++ [e])) m3 ∧ N m3 :=
  ⟨_, _, _, _, _, rfl, .head, R.ins.cl, R.ah, cont_lh, rfl, .head, h⟩
end
def S_sinit (S C : Addr) : SpecD := fun ds m K _ => ∃ x m0 a b, ds = [.ref x, rq C a, rq C b] ∧ m = (x, .ins S [] []) :: m0 ∧ a ≤ b ∧ Qb 3900 a ∧ Qb 3900 b ∧ K .non ((x, .ins S ["low", "high"] [rq C a, rq C b]) :: m0)
structure SpnA (x y : Rat) (K : Prop) : Prop where
  le : x ≤ y
  qx : Qb 3900 x
  qy : Qb 3900 y
  k : K
theorem we_spn (h : Wa W E ta r m fun ds m1 => ∃ x y, ds = [rq C x, rq C y] ∧ SpnA x y (K (spn S C x y) m1)) : We W E (tMk S 3 (S_sinit S C) [] W ta) r m K :=
  we_mk0 (h.imp fun ds m1 ⟨p, q, e, le, qx, qy, k⟩ => by
    subst e
    exact ⟨rfl, fun x _ => ⟨x, m1, p, q, rfl, rfl, le, qx, qy, _, _, rfl, rfl, k⟩⟩)
/-- two spans, of a size -/
structure Two (x0 x1 y0 y1 : Rat) : Prop where
  lx : x0 ≤ x1
  ly : y0 ≤ y1
  a0 : Qb 900 x0
  a1 : Qb 900 x1
  b0 : Qb 900 y0
  b1 : Qb 900 y1
abbrev F4 := Rat → Rat → Rat → Rat → Rat
def S_s2 (S C : Addr) (f g : F4) : SpecD := fun ds m K _ => ∃ x0 x1 y0 y1, ds = [spn S C x0 x1, spn S C y0 y1] ∧ Two x0 x1 y0 y1 ∧ K (spn S C (f x0 x1 y0 y1) (g x0 x1 y0 y1)) m
def q4min (a b c d : Rat) : Rat := qmin (qmin a b) (qmin c d)
def q4max (a b c d : Rat) : Rat := qmax (qmax a b) (qmax c d)
def addL : F4 := fun x0 _ y0 _ => x0 + y0
def addH : F4 := fun _ x1 _ y1 => x1 + y1
def subL : F4 := fun x0 _ _ y1 => x0 - y1
def subH : F4 := fun _ x1 y0 _ => x1 - y0
def mulL : F4 := fun x0 x1 y0 y1 => q4min (x0 * y0) (x0 * y1) (x1 * y0) (x1 * y1)
def mulH : F4 := fun x0 x1 y0 y1 => q4max (x0 * y0) (x0 * y1) (x1 * y0) (x1 * y1)
def leL : F4 := fun x0 _ y0 _ => qmin x0 y0
def leH : F4 := fun _ x1 _ y1 => qmin x1 y1
def grL : F4 := fun x0 _ y0 _ => qmax x0 y0
def grH : F4 := fun _ x1 _ y1 => qmax x1 y1
def divL : F4 := fun x0 x1 y0 y1 => mulL x0 x1 (1 / y1) (1 / y0)
def divH : F4 := fun x0 x1 y0 y1 => mulH x0 x1 (1 / y1) (1 / y0)
theorem use_s2 {f g : F4} (h : Two x0 x1 y0 y1) (k : K (spn S C (f x0 x1 y0 y1) (g x0 x1 y0 y1)) m) : S_s2 S C f g [spn S C x0 x1, spn S C y0 y1] m K F := ⟨_, _, _, _, rfl, h, k⟩
def S_sneg (S C : Addr) : SpecD := fun ds m K _ => ∃ x0 x1, ds = [spn S C x0 x1] ∧ x0 ≤ x1 ∧ Qb 900 x0 ∧ Qb 900 x1 ∧ K (spn S C (-x1) (-x0)) m
theorem use_sneg (h : x0 ≤ x1) (a : Qb 900 x0) (b : Qb 900 x1) (k : K (spn S C (-x1) (-x0)) m) : S_sneg S C [spn S C x0 x1] m K F := ⟨_, _, rfl, h, a, b, k⟩
def S_scont (S C : Addr) : SpecD := fun ds m K _ => ∃ x0 x1 x, ds = [spn S C x0 x1, rq C x] ∧ Qb 3900 x0 ∧ Qb 3900 x1 ∧ Qb 3900 x ∧ K (.bl (decide (x0 ≤ x ∧ x ≤ x1))) m
theorem use_scont (a : Qb 3900 x0) (b : Qb 3900 x1) (c : Qb 3900 x) (k : K (.bl (decide (x0 ≤ x ∧ x ≤ x1))) m) : S_scont S C [spn S C x0 x1, rq C x] m K F := ⟨_, _, _, rfl, a, b, c, k⟩
/-- the quotient, or ZeroBottom (class Z) -/
def S_sdiv (S C Z : Addr) : SpecD := fun ds m K E => ∃ x0 x1 y0 y1, ds = [spn S C x0 x1, spn S C y0 y1] ∧ Two x0 x1 y0 y1 ∧ ((y0 ≤ 0 ∧ 0 ≤ y1 ∧ E ⟨Z, [], []⟩ m) ∨ ((0 < y0 ∨ y1 < 0) ∧ K (spn S C (divL x0 x1 y0 y1) (divH x0 x1 y0 y1)) m))
theorem use_sdiv {Z : Addr} (h : Two x0 x1 y0 y1) (n : 0 < y0 ∨ y1 < 0) (k : K (spn S C (divL x0 x1 y0 y1) (divH x0 x1 y0 y1)) m) : S_sdiv S C Z [spn S C x0 x1, spn S C y0 y1] m K F := ⟨_, _, _, _, rfl, h, .inr ⟨n, k⟩⟩
/-! what is between -/
theorem q4_le {a b c d : Rat} : q4min a b c d ≤ q4max a b c d := by
  unfold q4min q4max qmin qmax
  grind
theorem q4min_qb {n : Nat} {a b c d : Rat} (ha : Qb n a) (hb : Qb n b) (hc : Qb n c) (hd : Qb n d) : Qb n (q4min a b c d) := qmin_qb (qmin_qb ha hb) (qmin_qb hc hd)
theorem q4max_qb {n : Nat} {a b c d : Rat} (ha : Qb n a) (hb : Qb n b) (hc : Qb n c) (hd : Qb n d) : Qb n (q4max a b c d) := qmax_qb (qmax_qb ha hb) (qmax_qb hc hd)
theorem qmin_le {a b c d : Rat} (h : a ≤ c) (k : b ≤ d) : qmin a b ≤ qmin c d := by
  unfold qmin
  grind
theorem qmax_le {a b c d : Rat} (h : a ≤ c) (k : b ≤ d) : qmax a b ≤ qmax c d := by
  unfold qmax
  grind
theorem inv_anti {a b : Rat} (h : a ≤ b) (n : 0 < a ∨ b < 0) : 1 / b ≤ 1 / a := by
  have na : a ≠ 0 := by grind
  have nb : b ≠ 0 := by grind
  have ea := Rat.div_mul_cancel (a := 1) na
  have eb := Rat.div_mul_cancel (a := 1) nb
  generalize 1 / a = u at *
  generalize 1 / b = v at *
  have e : (u - v) * (a * b) = b - a := by grind
  have p : 0 < a * b := by
    rcases n with n | n
    · exact Rat.mul_pos n (by grind)
    · have := Rat.mul_pos (a := -a) (b := -b) (by grind) (by grind)
      grind
  have q : 0 * (a * b) ≤ (u - v) * (a * b) := by rw [e]; grind
  have := Rat.le_of_mul_le_mul_right q p
  grind
end
end DL
set_option Elab.async false
set_option linter.all false
set_option maxRecDepth 100000
/-! DL13: == and != of all kinds: plain data, an own __eq__ on either side. -/
namespace PySem.SeqAt
open AutoSeq1 (wpAny_loadPart')
open MeetsSeq PySem.W
section
variable {prog : Program} {w : World} {A : Around} {E : Value → Shared → Prop} {s : Shared} {K : Frag} {x C : Addr} {ox : Obj} {od : Option Obj}
theorem isInst_own {M : Model} {T : String} {Q : Bool → Shared → Prop} (X : K.In s.heap) (I : PySem.W.InstAt s.heap x ox C od) (h : subIn K (.ref C) (.type T) = some false) (q : Q false s) : wpAny M A (isInstance (.ref x) (.type T)) Q E s := by
  unfold isInstance
  exact wpAny_bind (I.type.here ((looks_subIn X h).here q))
theorem list_eq_own (l : Addr) (items : Array Value) (n : Nat) (dd : Option Addr) (sl : Array (Option Value)) (hs : subIn K (.ref C) (.type "list") = some false) :
    Meets (Builtin.«list.__eq__» ⟨[.ref l, .ref x], []⟩) (fun _ R s => s.heap.get? l = some { cls := .type "list", dict := dd, data := .seq items n, slots := sl } ∧ K.In s.heap ∧ PySem.W.InstAt s.heap x ox C od ∧ R (.ok (.ret .notImplemented)) s) :=
  .of_wp fun prog w A R s h => by
    obtain ⟨hl, X, I, h⟩ := h
    have f1 : ∀ {M : Model} {A : Around} {E : Value → Shared → Prop} {Q : Bool → Shared → Prop}, Q false s → wpAny M A (isInstance (.ref x) (.type "list")) Q E s := fun q => isInst_own X I hs q
    obtain ⟨hp, g, d, tk, os⟩ := s
    wp_walk using wpAny_loadPart' hl, f1
    exact ⟨_, rfl, h⟩
theorem tuple_eq_own (l : Addr) (items : Array Value) (n : Nat) (dd : Option Addr) (sl : Array (Option Value)) (hs : subIn K (.ref C) (.type "tuple") = some false) :
    Meets (Builtin.«tuple.__eq__» ⟨[.ref l, .ref x], []⟩) (fun _ R s => s.heap.get? l = some { cls := .type "tuple", dict := dd, data := .seq items n, slots := sl } ∧ K.In s.heap ∧ PySem.W.InstAt s.heap x ox C od ∧ R (.ok (.ret .notImplemented)) s) :=
  .of_wp fun prog w A R s h => by
    obtain ⟨hl, X, I, h⟩ := h
    have f1 : ∀ {M : Model} {A : Around} {E : Value → Shared → Prop} {Q : Bool → Shared → Prop}, Q false s → wpAny M A (isInstance (.ref x) (.type "tuple")) Q E s := fun q => isInst_own X I hs q
    obtain ⟨hp, g, d, tk, os⟩ := s
    wp_walk using wpAny_loadPart' hl, f1
    exact ⟨_, rfl, h⟩
theorem int_eq_own (b : Int) (u : Tok) (dx : Addr) :
    Meets (Builtin.«int.__eq__» ⟨[.int b u, .ref x], []⟩) (fun _ R s => s.heap.get? x = some (instObj C dx) ∧ R (.ok (.ret .notImplemented)) s) :=
  .of_wp fun prog w A R s h => by
    obtain ⟨hp, g, d, tk, os⟩ := s
    obtain ⟨hl, h⟩ := h
    wp_walk using wpAny_loadPart' hl, wpAny_load hl
    exact ⟨_, rfl, h⟩
theorem str_eq_own (b : Str) (u : Tok) (dx : Addr) :
    Meets (Builtin.«str.__eq__» ⟨[.str b u, .ref x], []⟩) (fun _ R s => s.heap.get? x = some (instObj C dx) ∧ R (.ok (.ret .notImplemented)) s) :=
  .of_wp fun prog w A R s h => by
    obtain ⟨hp, g, d, tk, os⟩ := s
    obtain ⟨hl, h⟩ := h
    wp_walk using wpAny_loadPart' hl, wpAny_load hl
    exact ⟨_, rfl, h⟩
end
end PySem.SeqAt
namespace PySem.W
open PySem.SeqAt MeetsSeq
section
variable {prog : Program} {w : World} {A : Around} {E : Value → Shared → Prop} {s : Shared} {K : Frag} {x C f : Addr} {ox : Obj} {od : Option Obj} {a : Value} {T id : String}
/-- a builtin's value == an own instance: the value's own == declines, the instance's is asked -/
theorem cmp_refl {Q : Value → Shared → Prop} (hu : A.units < cLine) (X : K.In s.heap) (I : InstAt s.heap x ox C od) (ha : s.TypeIs a T) (hsub : subIn K (.ref C) (.type T) = some false)
    (h1 : Slot T (cmpInfo .Eq).2.1 id) (hc : ∀ Q' : Value → Shared → Prop, Q' .notImplemented s → wpAny (model prog w) A (call (.builtin id) [a, .ref x]) Q' E s)
    (hs : findIn K (.ref C) "__eq__" = some (some (.ref f))) (hf : isFn K (.ref f) = true)
    (h : wpAny (model prog w) A (call (.ref f) [.ref x, a]) (CmpBack Q) E s) : wpAny (model prog w) A (richCompare .Eq a (.ref x)) Q E s := by
  have one : wpAny (model prog w) A (tryCompare (.ref x) "__eq__" a) (fun r s' => ∃ v, r = some v ∧ Q v s') E s := by
    unfold tryCompare
    refine wpAny_bind (ifBound_K X I hs hf (wpAny_mono h (fun v s' hv => ?_) fun _ _ e => e))
    cases v <;> first | exact hv.elim | exact wpAny_pure ⟨_, rfl, hv⟩
  rcases hi : cmpInfo CmpOp.Eq with ⟨sym, ff, r⟩
  rw [hi] at h1
  have er : r = "__eq__" := by
    have : (cmpInfo CmpOp.Eq).2.2 = "__eq__" := rfl
    rw [hi] at this
    exact this
  subst er
  simp only [richCompare, hi, ha.oneThing_none]
  refine wpAny_holding ?_
  refine wpAny_bind (wpAny_cRoomFor hu ?_)
  refine wpAny_bind (wpAny_typeOf ha (wpAny_bind (I.type.here ?_)))
  have ne : (Value.type T != Value.ref C) = true := rfl
  simp only [ne, if_true]
  refine wpAny_bind ((looks_subIn X hsub).here ?_)
  simp only [Bool.false_eq_true, if_false, Bool.not_false, if_true]
  refine wpAny_bind (m := tryCompare a _ _) (wpAny_tryCompare_declines ha h1 (hc _ ⟨rfl, ?_⟩))
  refine wpAny_bind (m := tryCompare (.ref x) _ a) (wpAny_mono one (fun r s' z => ?_) fun _ _ e => e)
  obtain ⟨v, rfl, hq⟩ := z
  exact wpAny_pure hq
end
end PySem.W
namespace DL
open PySem PySem.Spec L2
open PyProof.Rows hiding St
/-! ### == and !=: all kinds -/
mutual
/-- a plain datum -/
inductive PD : D → PyData → Prop
  | non : PD .non .none
  | bl (b : Bool) : PD (.bl b) (.bool b)
  | int (i : Int) : PD (.int i) (.int i)
  | str (x : Str) : PD (.str x) (.str x)
  | tup {xs : List D} {ps : List PyData} (h : PDs xs ps) : PD (.tup xs) (.tuple ps)
  | lst {xs : List D} {ps : List PyData} (h : PDs xs ps) : PD (.lst xs) (.list ps)
inductive PDs : List D → List PyData → Prop
  | nil : PDs [] []
  | cons {x : D} {p : PyData} {xs : List D} {ps : List PyData} (h : PD x p) (t : PDs xs ps) : PDs (x :: xs) (p :: ps)
end
mutual
theorem PD.dp {K : PySem.W.Frag} {M : Addr → Prop} {H : Hp} : ∀ {d : D} {p : PyData} {v : V}, PD d p → Rep M H d v → Dp K H v p
  | _, _, _, .non, .non => .non
  | _, _, _, .bl b, .bl _ => .bl b
  | _, _, _, .int i, .int _ => .int i
  | _, _, _, .str x, .str _ => .str x
  | _, _, _, .tup h, .tup m hh r => .tup (rd_t hh) (PDs.dp h r)
  | _, _, _, .lst h, .lst m hh r => .lst (rd_l hh) (PDs.dp h r)
theorem PDs.dp {K : PySem.W.Frag} {M : Addr → Prop} {H : Hp} : ∀ {d : List D} {p : List PyData} {v : List V}, PDs d p → Reps M H d v → DpAll K H v p
  | _, _, _, .nil, .nil => .nil
  | _, _, _, .cons h t, .cons r q => .cons (PD.dp h r) (PDs.dp t q)
end
section
variable {X : Cx} {W : WX} {j : Nat}
/-- an own instance with an own __eq__ on the left -/
def oOwnL (G : Gx) (j : Nat) (W : WX) : O2 := fun x y σ H Q => ∃ (a C dx : Addr) (fs : List (Str × V)) (k : Nat) (S : SpecD) (t : Value), x = .ref a ∧ H a = some (.ins C dx fs) ∧ TyX G.K H y t ∧ PySem.W.notFirst G.K C t = true ∧ k ≤ j ∧ Opr G k C "__eq__" 2 S ∧ spD 2 S [x, y] H Q (WE W σ)
theorem os_ownL (hr : Room j X.A) (tk : L2N.Takes X W) : OpS X (compareOp .Eq) (oOwnL (Gx.of X) j W) := by
  intro pins s σ H x y u v Q I rx ry h
  obtain ⟨a, C, dx, fs, k, S, t, rfl, ha, ty, nf, hk, O, q⟩ := h
  obtain rfl : u = Value.ref a := rx
  obtain ⟨f, ⟨⟨fd, ps, ds, F, bd, d⟩, cs⟩, h1, h2⟩ := O.ex
  obtain ⟨od, J⟩ := inst_of I ha
  obtain ⟨P, Z, hp, _⟩ := kit_of I ry ty
  obtain ⟨m, fr⟩ := I.fr
  show wpAny (model X.prog X.w) X.A (richCompare .Eq (.ref a) v) (EP X pins σ Q) X.xe s
  refine PySem.W.cmp_K (Nat.lt_of_succ_lt (hu_of hr)) fr I.ok.mod.kin J (Z.ty _ _ I.kIn hp) nf h1 h2 ?_
  exact wpAny_mono (run_fnSD (E := WE W) (us := [.ref a, v]) (vs := [.ref a, y]) F (hr.mono hk) bd d (L2N.passAt tk σ) I (.cons rfl (.cons ry .nil)) q) (fun r s' hq => back_of hq) fun _ _ z => z
/-- a builtin's value, by its type -/
inductive BkV (K : PySem.W.Frag) (H : Hp) : V → String → Prop
  | non : BkV K H .non "NoneType"
  | int (i : Int) : BkV K H (.int i) "int"
  | str (x : Str) : BkV K H (.str x) "str"
  | lst {a : Addr} {xs : List V} (h : SqL K H a xs) : BkV K H (.ref a) "list"
  | tup {a : Addr} {xs : List V} (h : SqT K H a xs) : BkV K H (.ref a) "tuple"
/-- .. on the right -/
def oOwnR (G : Gx) (j : Nat) (W : WX) : O2 := fun x y σ H Q => ∃ (a C dx : Addr) (fs : List (Str × V)) (k : Nat) (S : SpecD) (T : String), y = .ref a ∧ H a = some (.ins C dx fs) ∧ BkV G.K H x T ∧ PySem.W.subIn G.K (.ref C) (.type T) = some false ∧ k ≤ j ∧ Opr G k C "__eq__" 2 S ∧ spD 2 S [y, x] H Q (WE W σ)
theorem os_ownR (hr : Room j X.A) (tk : L2N.Takes X W) : OpS X (compareOp .Eq) (oOwnR (Gx.of X) j W) := by
  intro pins s σ H x y u v Q I rx ry h
  obtain ⟨a, C, dx, fs, k, S, T, rfl, ha, bk, sb, hk, O, q⟩ := h
  obtain rfl : v = Value.ref a := ry
  obtain ⟨f, ⟨⟨fd, ps, ds, F, bd, d⟩, cs⟩, h1, h2⟩ := O.ex
  obtain ⟨od, J⟩ := inst_of I ha
  have hu := Nat.lt_of_succ_lt (hu_of hr)
  have run : wpAny (model X.prog X.w) X.A (call (.ref f) [.ref a, u]) (PySem.W.CmpBack (EP X pins σ Q)) X.xe s :=
    wpAny_mono (run_fnSD (E := WE W) (us := [.ref a, u]) (vs := [.ref a, x]) F (hr.mono hk) bd d (L2N.passAt tk σ) I (.cons rfl (.cons rx .nil)) q) (fun r s' hq => back_of hq) fun _ _ z => z
  show wpAny (model X.prog X.w) X.A (richCompare .Eq u (.ref a)) (EP X pins σ Q) X.xe s
  cases bk with
  | non =>
    cases (show u = Value.none from rx)
    exact PySem.W.cmp_refl hu I.kIn J rfl sb PySem.F.slot_NoneType_eq (fun _ hq => call_gives PySem.F.slot_NoneType_eq rfl PySem.F.entry_NoneType_eq (PySem.F.args_NoneType_eq_2 _ _) (PySem.SeqAt.NoneType___eq___none_ref_0 a) hq) h1 h2 run
  | int i =>
    obtain ⟨t, e⟩ := (show ∃ t, u = Value.int i t from rx)
    cases e
    exact PySem.W.cmp_refl hu I.kIn J (typeIs_int s i t) sb PySem.F.slot_int_eq (fun _ hq => call_meets PySem.F.slot_int_eq (typeIs_int s i t) PySem.F.entry_int_eq (PySem.F.args_int_eq_2 _ _) (PySem.SeqAt.int_eq_own i t dx) ⟨J.at_, hq⟩) h1 h2 run
  | str i =>
    obtain ⟨t, e⟩ := (show ∃ t, u = Value.str i t from rx)
    cases e
    exact PySem.W.cmp_refl hu I.kIn J (typeIs_str s i t) sb PySem.F.slot_str_eq (fun _ hq => call_meets PySem.F.slot_str_eq (typeIs_str s i t) PySem.F.entry_str_eq (PySem.F.args_str_eq_2 _ _) (PySem.SeqAt.str_eq_own i t dx) ⟨J.at_, hq⟩) h1 h2 run
  | @lst l xs hh =>
    cases (show u = Value.ref l from rx)
    obtain ⟨its, rv, p, hz⟩ := I.list hh
    obtain ⟨⟨cls, dd, data, sl⟩, ho, hc, n, hd⟩ := id p.isList
    simp only at hc hd
    subst hc hd
    exact PySem.W.cmp_refl hu I.kIn J ⟨_, ho, rfl⟩ sb PySem.F.slot_list_eq (fun _ hq => call_meets PySem.F.slot_list_eq ⟨_, ho, rfl⟩ PySem.F.entry_list_eq (PySem.F.args_list_eq_2 _ _) (PySem.SeqAt.list_eq_own l _ n dd sl sb) ⟨ho, I.kIn, J, hq⟩) h1 h2 run
  | @tup l xs hh =>
    cases (show u = Value.ref l from rx)
    obtain ⟨its, rv, p, hz⟩ := I.tuple hh
    obtain ⟨⟨cls, dd, data, sl⟩, ho, hc, n, hd⟩ := id (show s.heap.IsTuple l its.toArray from p)
    simp only at hc hd
    subst hc hd
    exact PySem.W.cmp_refl hu I.kIn J ⟨_, ho, rfl⟩ sb PySem.F.slot_tuple_eq (fun _ hq => call_meets PySem.F.slot_tuple_eq ⟨_, ho, rfl⟩ PySem.F.entry_tuple_eq (PySem.F.args_tuple_eq_2 _ _) (PySem.SeqAt.tuple_eq_own l _ n dd sl sb) ⟨ho, I.kIn, J, hq⟩) h1 h2 run
def oEqF (G : Gx) (j : Nat) (W : WX) : O2 := fun x y s H Q => rEq x y H Q ∨ (rEqD G.K x y H Q ∨ (oOwnL G j W x y s H Q ∨ oOwnR G j W x y s H Q))
def oNeF (G : Gx) (j : Nat) (W : WX) : O2 := fun x y s H Q => rNe x y H Q ∨ rNeD G.K x y H Q
theorem os_eqF (hr : Room j X.A) (tk : L2N.Takes X W) : OpS X (compareOp .Eq) (oEqF (Gx.of X) j W) := (OpS.of op_eq).or ((OpS.of (op_eqD hr.units)).or ((os_ownL hr tk).or (os_ownR hr tk)))
theorem os_neF (hr : Room j X.A) (tk : L2N.Takes X W) : OpS X (compareOp .NotEq) (oNeF (Gx.of X) j W) := (OpS.of op_ne).or (OpS.of (op_neD hr.units))
end
/-! ### what they do to trees -/
section
variable {W : WX} {E : ET} {r : Rho} {m : Mu} {K : KT} {G : Gx} {j k : Nat} {C : Addr} {ns : List Str} {ds : List D} {S : SpecD} {d d' : D}
theorem w2_eqFI {i k : Int} (h : K (.bl (decide (i = k))) m) : W2 W E (oEqF G j W) (.int i) (.int k) r m K := w2_val (fun _ _ _ => rint) (fun _ _ _ => rint) (fun _ _ => .bl _) (fun _ _ _ q => .inl ⟨rfl, by rw [dec_int, ← Bool.beq_eq_decide_eq] at *; exact q⟩) h
theorem w2_neFI {i k : Int} (h : K (.bl (!decide (i = k))) m) : W2 W E (oNeF G j W) (.int i) (.int k) r m K := w2_val (fun _ _ _ => rint) (fun _ _ _ => rint) (fun _ _ => .bl _) (fun _ _ _ q => .inl ⟨rfl, by rw [dec_int, ← Bool.beq_eq_decide_eq] at *; exact q⟩) h
theorem w2_eqFD {p q : PyData} (h1 : PD d p) (h2 : PD d' q) (s1 : SeqAt.shaped p = true) (s2 : SeqAt.shaped q = true) (h : K (.bl (PyData.eqv p q)) m) : W2 W E (oEqF G j W) d d' r m K := fun s H Q a b e z ra rb g =>
  .inr (.inl ⟨p, q, h1.dp ra, h2.dp rb, s1, s2, g _ m _ H (Stp.refl _ _) e.mu (.bl _) h⟩)
theorem w2_neFD {p q : PyData} (h1 : PD d p) (h2 : PD d' q) (s1 : SeqAt.shaped p = true) (s2 : SeqAt.shaped q = true) (h : K (.bl (!PyData.eqv p q)) m) : W2 W E (oNeF G j W) d d' r m K := fun s H Q a b e z ra rb g =>
  .inr ⟨p, q, h1.dp ra, h2.dp rb, s1, s2, g _ m _ H (Stp.refl _ _) e.mu (.bl _) h⟩
theorem w2_eqFs {p : PyData} (h1 : PD d p) (s1 : SeqAt.shaped p = true) (h : K (.bl true) m) : W2 W E (oEqF G j W) d d r m K := w2_eqFD h1 h1 s1 s1 (by rw [PySem.SeqAt.eqv_refl p (SeqAt.canLay_of_shaped s1)]; exact h)
theorem w2_neFs {p : PyData} (h1 : PD d p) (s1 : SeqAt.shaped p = true) (h : K (.bl false) m) : W2 W E (oNeF G j W) d d r m K := w2_neFD h1 h1 s1 s1 (by rw [PySem.SeqAt.eqv_refl p (SeqAt.canLay_of_shaped s1)]; exact h)
/-- the instance on the left -/
theorem w2_eqFL {t : Value} (O : Opr G k C "__eq__" 2 S) (hk : k ≤ j) (i : FldD d m C ns ds) (ty : TyD G d' m t) (nf : PySem.W.notFirst G.K C t = true) (h : S [d, d'] m K fun x m' => E x r m') : W2 W E (oEqF G j W) d d' r m K := fun s H Q a b e z ra rb g => by
  obtain ⟨p, dx, gs, rfl, hp, _⟩ := i.look e.mu ra
  exact .inr (.inr (.inl ⟨p, C, dx, gs, k, S, t, rfl, hp, ty.ok rb, nf, hk, O, spD_of rfl e z g (.cons ra (.cons rb .nil)) h fun _ _ q => q⟩))
inductive BkD : D → String → Prop
  | non : BkD .non "NoneType"
  | int (i : Int) : BkD (.int i) "int"
  | str (x : Str) : BkD (.str x) "str"
  | lst (xs : List D) : BkD (.lst xs) "list"
  | tup (xs : List D) : BkD (.tup xs) "tuple"
theorem BkD.ok {KF : PySem.W.Frag} {M : Addr → Prop} {H : Hp} {T : String} {v : V} (b : BkD d T) (rp : Rep M H d v) : BkV KF H v T := by
  cases b with
  | non => cases rp; exact .non
  | int i => cases rp; exact .int i
  | str i => cases rp; exact .str i
  | lst xs =>
    cases rp with
    | lst mm hh rs => exact .lst (rd_l hh)
  | tup xs =>
    cases rp with
    | tup mm hh rs => exact .tup (rd_t hh)
/-- .. on the right of a builtin's value -/
theorem w2_eqFR {T : String} (O : Opr G k C "__eq__" 2 S) (hk : k ≤ j) (i : FldD d' m C ns ds) (b : BkD d T) (sb : PySem.W.subIn G.K (.ref C) (.type T) = some false) (h : S [d', d] m K fun x m' => E x r m') : W2 W E (oEqF G j W) d d' r m K := fun s H Q a b' e z ra rb g => by
  obtain ⟨p, dx, gs, rfl, hp, _⟩ := i.look e.mu rb
  exact .inr (.inr (.inr ⟨p, C, dx, gs, k, S, T, rfl, hp, b.ok ra, sb, hk, O, spD_of rfl e z g (.cons rb (.cons ra .nil)) h fun _ _ q => q⟩))
end
/-! ### all of a list of bools; str of a number -/
section
variable {X : Cx} {W : WX} {E : ET} {r : Rho} {m : Mu} {K : KT} {G : Gx}
def cAll (G : Gx) : OC := fun xs _ H Q => rAll G.K xs H Q
theorem cs_all (hc : X.calm = true) : CallS X (.builtin "all") (cAll (Gx.of X)) := CallS.of (cr_all hc)
def cAny (G : Gx) : OC := fun xs _ H Q => rAny G.K xs H Q
theorem cs_any (hc : X.calm = true) : CallS X (.builtin "any") (cAny (Gx.of X)) := CallS.of (cr_any hc)
theorem rep_bls {M : Addr → Prop} {H : Hp} : ∀ {bs : List Bool} {vs : List V}, Reps M H (bs.map D.bl) vs → vs = bs.map V.bl
  | [], _, .nil => rfl
  | b :: bs, _, .cons (.bl _) t => by rw [rep_bls t]; rfl
theorem wc_all {ds : List D} {bs : List Bool} (e : ds = bs.map D.bl) (h : K (.bl (bs.all id)) m) : Wc W E (cAll G) [.lst ds] r m K := fun s H Q vs e0 z rs g => by
  subst e
  cases rs with
  | cons a tt =>
    cases tt
    cases a with
    | @lst a _ vs mm hh rr =>
      have e1 := rep_bls rr
      subst e1
      exact ⟨a, bs, rfl, rd_l hh, g _ m _ H (Stp.refl _ _) e0.mu (.bl _) h⟩
theorem wc_any {ds : List D} {bs : List Bool} (e : ds = bs.map D.bl) (h : K (.bl (bs.any id)) m) : Wc W E (cAny G) [.lst ds] r m K := fun s H Q vs e0 z rs g => by
  subst e
  cases rs with
  | cons a tt =>
    cases tt
    cases a with
    | @lst a _ vs mm hh rr =>
      have e1 := rep_bls rr
      subst e1
      exact ⟨a, bs, rfl, rd_l hh, g _ m _ H (Stp.refl _ _) e0.mu (.bl _) h⟩
def cStrI : OC := fun xs _ H Q => ∃ i, xs = [.int i] ∧ i.natAbs.log2 < 1920 ∧ Q (.str (toString i)) H
theorem cs_strI : CallS X (.type "str") cStrI := CallS.of call_str_int
theorem wc_strI {i : Int} (hb : i.natAbs.log2 < 1920) (h : K (.str (toString i)) m) : Wc W E cStrI [.int i] r m K := fun s H Q vs e z rs g => by
  cases rs with
  | cons a tt =>
    cases tt
    cases a
    exact ⟨i, rfl, hb, g _ m _ H (Stp.refl _ _) e.mu (.str _) h⟩
end
/-! ### an own == against the builtin kinds -/
def kinds5 : List String := ["NoneType", "int", "str", "list", "tuple"]
structure KindsC (G : Gx) (C : Addr) : Prop where
  kt : ∀ T ∈ kinds5, PySem.W.kitOne G.K (.type T) (.ref C) = some false
  sb : ∀ T ∈ kinds5, PySem.W.subIn G.K (.ref C) (.type T) = some false
  nf : ∀ T ∈ kinds5, PySem.W.notFirst G.K C (.type T) = true
theorem BkD.ty {G : Gx} {m : Mu} {d : D} {T : String} (b : BkD d T) : TyD G d m (.type T) := by
  cases b <;> constructor
theorem BkD.mem {d : D} {T : String} (b : BkD d T) : T ∈ kinds5 := by
  cases b <;> simp [kinds5]
theorem nf_self {K : PySem.W.Frag} {C : Addr} : PySem.W.notFirst K C (.ref C) = true := by simp [PySem.W.notFirst]
theorem kit_noT {K : PySem.W.Frag} {O : Addr} {T : String} (h2 : PySem.W.isClsIn K O = true) (h3 : PySem.W.typeIn K (.ref O) = some (.type "type")) (h4 : PySem.W.subIn K (.type T) (.ref O) = some false) : PySem.W.kitOne K (.type T) (.ref O) = some false := by
  have ne : ¬ ((Value.type T == Value.ref O) = true) := fun z => by simp at z
  have e2 : ((PySem.W.clsIn K O).isSome && PySem.W.typeIn K (.ref O) == some (.type "type")) = true := by
    have h2' : (PySem.W.clsIn K O).isSome = true := h2
    rw [h2', h3] <;> rfl
  unfold PySem.W.kitOne
  rw [if_neg ne]
  show (if ((PySem.W.clsIn K O).isSome && PySem.W.typeIn K (.ref O) == some (.type "type")) = true then PySem.W.subIn K (.type T) (.ref O) else none) = some false
  rw [if_pos e2]
  exact h4
theorem nf_of {K : PySem.W.Frag} {A B : Addr} (h : PySem.W.subIn K (.ref B) (.ref A) = some false) : PySem.W.notFirst K A (.ref B) = true := by simp [PySem.W.notFirst, h]
end DL
set_option Elab.async false
set_option linter.all false
set_option maxRecDepth 100000
/-! DQ2: Ratio's own ==, rounding; pairs that stand for fractions. -/
namespace DL
open PySem PySem.Spec L2
open PyProof.Rows hiding St
section
variable {W : WX} {E : ET} {ta : TA} {r : Rho} {m : Mu} {K : KT} {C : Addr} {F : Ex → Mu → Prop} {x y : Rat} {G : Gx} {j k : Nat} {d' : D} {T : String}
/-- Ratio's own == -/
def S_qeq (G : Gx) (C : Addr) : SpecD := fun ds m K _ => ∃ x d', ds = [rq C x, d'] ∧ ((∃ y, d' = rq C y ∧ K (.bl (decide (x = y))) m) ∨ (∃ t, TyD G d' m t ∧ PySem.W.kitOne G.K t (.ref C) = some false ∧ K (.bl false) m))
theorem w2_qeq (O : Opr G k C "__eq__" 2 (S_qeq G C)) (hk : k ≤ j) (ic : InsK G.K C) (h : K (.bl (decide (x = y))) m) : W2 W E (oEqF G j W) (rq C x) (rq C y) r m K :=
  w2_eqFL O hk .fixed (.ins ic) nf_self ⟨x, rq C y, rfl, .inl ⟨y, rfl, h⟩⟩
theorem w2_qeqL (O : Opr G k C "__eq__" 2 (S_qeq G C)) (hk : k ≤ j) (Kc : KindsC G C) (b : BkD d' T) (h : K (.bl false) m) : W2 W E (oEqF G j W) (rq C x) d' r m K :=
  w2_eqFL O hk .fixed b.ty (Kc.nf T b.mem) ⟨x, d', rfl, .inr ⟨_, b.ty, Kc.kt T b.mem, h⟩⟩
theorem w2_qeqR (O : Opr G k C "__eq__" 2 (S_qeq G C)) (hk : k ≤ j) (Kc : KindsC G C) (b : BkD d' T) (h : K (.bl false) m) : W2 W E (oEqF G j W) d' (rq C x) r m K :=
  w2_eqFR O hk .fixed b (Kc.sb T b.mem) ⟨x, d', rfl, .inr ⟨_, b.ty, Kc.kt T b.mem, h⟩⟩
theorem q_eq : x = y ↔ x.num = y.num ∧ (x.den : Int) = y.den := by
  constructor
  · intro e
    subst e
    exact ⟨rfl, rfl⟩
  · intro h
    exact Rat.ext h.1 (Int.ofNat.inj h.2)
def S_qdown (C : Addr) : SpecD := fun ds m K _ => ∃ x, ds = [rq C x] ∧ Qb 3900 x ∧ K (.int (x.num / x.den)) m
def S_qup (C : Addr) : SpecD := fun ds m K _ => ∃ x, ds = [rq C x] ∧ Qb 3900 x ∧ K (.int (-(-x.num / x.den))) m
theorem use_qdown (h : Qb 3900 x) (q : K (.int (x.num / x.den)) m) : S_qdown C [rq C x] m K F := ⟨x, rfl, h, q⟩
theorem use_qup (h : Qb 3900 x) (q : K (.int (-(-x.num / x.den))) m) : S_qup C [rq C x] m K F := ⟨x, rfl, h, q⟩
end
/-- rounding, by any pair -/
theorem dv_floor {a b : Int} (hb : 0 < b) : (dv a b).num / ((dv a b).den : Int) = a / b := by
  obtain ⟨g, hg, e1, e2, hp⟩ := rat_eqs (t := a) (b := b) (by omega)
  have r := rT_dv (t := a) (b := b) (by omega)
  rw [← r.1, ← r.2]
  have gp : 0 < g := by
    refine Int.lt_of_not_ge fun z => ?_
    have : g * rB a b ≤ 0 := Int.mul_nonpos_of_nonpos_of_nonneg z (Int.le_of_lt hp)
    omega
  generalize rT a b = P at *
  generalize rB a b = Q at *
  subst e1 e2
  exact (Int.mul_ediv_mul_of_pos _ _ gp).symm
theorem dv_ceil {a b : Int} (hb : 0 < b) : -(-(dv a b).num / ((dv a b).den : Int)) = -(-a / b) := by
  have e := dv_floor (a := -a) hb
  rw [← neg_dv] at e
  rw [← e]
  rfl
theorem dv_int {a : Int} : dv a 1 = (a : Rat) := by
  rw [show dv a 1 = (a : Rat) / ((1 : Int) : Rat) from Rat.divInt_eq_div a 1]
  rw [Rat.div_def]
  have : (((1 : Int) : Rat))⁻¹ = 1 := Rat.inv_eq_of_mul_eq_one (by rw [Rat.mul_one]; rfl)
  rw [this, Rat.mul_one]
/-- a pair that stands for a fraction, of a size -/
structure Fr (n : Nat) (t b : Int) : Prop where
  pos : 0 < b
  bt : Bd n t
  bb : Bd n b
theorem Fr.mono {a b : Nat} {x y : Int} (h : Fr a x y) (l : a ≤ b) : Fr b x y := ⟨h.pos, h.bt.mono l, h.bb.mono l⟩
theorem Fr.plus {n k : Nat} {a b c d : Int} (h : Fr n a b) (q : Fr k c d) : Fr (n + k + 1) (a * d + c * b) (b * d) :=
  ⟨Int.mul_pos h.pos q.pos, (h.bt.mul q.bb).add ((q.bt.mul h.bb).mono (Nat.le_of_eq (Nat.add_comm _ _))), (h.bb.mul q.bb).mono (by omega)⟩
theorem Fr.minus {n k : Nat} {a b c d : Int} (h : Fr n a b) (q : Fr k c d) : Fr (n + k + 1) (a * d - c * b) (b * d) :=
  ⟨Int.mul_pos h.pos q.pos, (h.bt.mul q.bb).sub ((q.bt.mul h.bb).mono (Nat.le_of_eq (Nat.add_comm _ _))), (h.bb.mul q.bb).mono (by omega)⟩
theorem Fr.mul {n k : Nat} {a b c d : Int} (h : Fr n a b) (q : Fr k c d) : Fr (n + k) (a * c) (b * d) :=
  ⟨Int.mul_pos h.pos q.pos, h.bt.mul q.bt, h.bb.mul q.bb⟩
theorem bd_nat {n : Nat} {a : Int} (h : Bd n a) : Bd n (a.natAbs : Int) := by
  unfold Bd at *
  rwa [Int.natAbs_natCast]
theorem Fr.abs {n : Nat} {a b : Int} (h : Fr n a b) : Fr n (a.natAbs : Int) b := ⟨h.pos, bd_nat h.bt, h.bb⟩
theorem Fr.neg {n : Nat} {a b : Int} (h : Fr n a b) : Fr n (-a) b := ⟨h.pos, h.bt.neg, h.bb⟩
theorem Fr.qb {n : Nat} {a b : Int} (h : Fr n a b) : Qb n (dv a b) := qb_of (by have := h.pos; omega) h.bt h.bb
theorem fr_small {a b : Int} (h : a.natAbs ≤ 1000000000000) (k : 0 < b) (l : b ≤ 1000000000000) : Fr 40 a b := ⟨k, by unfold Bd; omega, by unfold Bd; omega⟩
theorem fr_one {n : Nat} {a : Int} (h : Bd n a) : Fr (n + 1) a 1 := ⟨by decide, h.mono (by omega), (bd_lit (n := 1) (by decide)).mono (by omega)⟩
theorem fr_zero : Fr 1 0 1 := ⟨by decide, bd_lit (by decide), bd_lit (by decide)⟩
theorem abs_nn {a b : Int} (h : 0 < b) : 0 ≤ dv (a.natAbs : Int) b := (dv_nonneg h).mpr (by omega)
theorem neg_np {a b : Int} (h : 0 < b) : dv (-(a.natAbs : Int)) b ≤ 0 := (dv_nonpos h).mpr (by omega)
theorem cq_dv {a b c d : Int} (hb : 0 < b) (hd : 0 < d) : cq (dv a b) (dv c d) = if a * d - c * b < 0 then -1 else if 0 < a * d - c * b then 1 else 0 := by
  unfold cq
  simp only [lt_dv hb hd, lt_dv hd hb]
  have e1 : a * d < c * b ↔ a * d - c * b < 0 := by omega
  have e2 : c * b < a * d ↔ 0 < a * d - c * b := by omega
  simp only [e1, e2]
theorem cq_self {x : Rat} : cq x x = 0 := by
  unfold cq
  grind
theorem cq_swap {x y : Rat} : cq y x = -cq x y := by
  unfold cq
  grind
theorem cq_zero {x y : Rat} : cq x y = 0 ↔ x = y := by
  unfold cq
  grind
theorem cq_num {x : Rat} : cq x 0 = cq x (dv 0 1) := rfl
end DL
set_option Elab.async false
set_option linter.all false
set_option maxRecDepth 100000
/-! DL14: static methods, &, texts put together, == of plain data in except suites. -/
namespace DL
open PySem PySem.Spec L2
open PyProof.Rows hiding St
/-- a static method mt of the class at C -/
structure Sta (G : Gx) (k : Nat) (C : Addr) (mt : Str) (n : Nat) (S : SpecD) : Prop where
  ex : ∃ (f p : Addr) (rr : List Value), Fnx G k f n S [] ∧ ClX.CRead G.K C (.type "type") ∧ PySem.W.findCls G.K (.ref C) (.type "type") mt = some (.get (.builtin "staticmethod.__get__") (.ref p) .none (.ref C)) ∧ PySem.W.recIn G.K p "staticmethod" = some (.ref f :: rr) ∧ PySem.W.keepIn G.K (.ref f) = true
def tSt (C : Addr) (n : Nat) (S : SpecD) (W : WX) (to : TE) (t : TA) : TE := fun σ H Q => to σ H fun x H1 => x = .ref C ∧ t σ H1 fun vs H2 => spD n S vs H2 Q (WE W σ)
section
variable {X : Cx} {W : WX} {mt : Str} {k j n : Nat} {S : SpecD} {C : Addr} {e o : Expr} {es : List Expr} {t : TA} {to : TE} {pos apos : Pos}
theorem pe_sta {pl : Sem Bool} (c : Sta (Gx.of X) k C mt n S) (hr : Room j X.A) (hk : k ≤ j) (tk : L2N.Takes X W) (he : PE X o to) (ha : PA X (e :: es) t)
    (hst : starEach (e :: es) X.env = (false, eval e X.env) :: starEach es X.env := by rfl) (hpl : (backTo pos (starEach es X.env)).any (·.1) = false := by rfl)
    (ht : eval (.Call (.Attribute o mt apos) (e :: es) [] pos) X.env = (do
      let ov ← eval o X.env
      standAt apos.atName
      let (f, first) ← holding [ov] (getMethod ov mt pl)
      callWith pos f first (backTo pos (starEach (e :: es) X.env)) (backToKw pos (keywordEach [] X.env))) := by rfl) :
    PE X (.Call (.Attribute o mt apos) (e :: es) [] pos) (tSt C n S W to t) := by
  obtain ⟨f, p, rr, ⟨⟨fd, ps, ds, F, b, d⟩, cs⟩, rd, at_, rc, kp⟩ := c.ex
  have hds : ds = [] := by
    have := d.length
    simp only [List.map_nil, List.length_nil] at this
    exact List.length_eq_zero_iff.mp this.symm
  refine ⟨fun pins s σ H Q I h => ?_⟩
  refine PySem.W.methodCall_KW (pl := pl) (thn (he.run pins s σ H _ I h) fun u s1 ⟨x, H1, I1, rx, ex, q⟩ => ?_) ht
  subst ex
  obtain rfl : u = Value.ref C := rx
  refine PySem.W.method_cls I1.kIn rd.ga ?_
  refine PySem.W.cls_bind I1.kIn rd.rd at_ ?_
  refine wpAny_call (PySem.W.sm_get (s := { s1 with toks := s1.toks + 1 }) I1.kIn rc (PySem.W.handed_on rfl ?_))
  have I2 := I1.tok (s1.toks + 1)
  refine PySem.W.callWith_K (first := []) (h₀ := X.base) I.ok.mod.kin kp (thn (ha.run pos pins _ σ H1 _ I2 q) fun us s2 ⟨vs, H2, I3, rr, q2⟩ => ⟨I3.kIn, ?_⟩) hst hpl
  have z := run_fnSD (E := WE W) (us := us) (vs := vs) F (hr.mono hk) b d (L2N.passAt tk σ) I3 rr (by rw [List.map_nil, List.append_nil]; exact q2)
  exact z
end
section
variable {W : WX} {E : ET} {r : Rho} {m : Mu} {K : KT} {C : Addr} {n : Nat} {S : SpecD} {to : TE} {t : TA}
theorem we_sta (h : We W E to r m fun d m1 => d = .ref C ∧ Wa W E t r m1 fun ds m2 => ds.length = n ∧ S ds m2 K fun x m' => E x r m') : We W E (tSt C n S W to t) r m K := fun s H Q e z g =>
  h s H _ e z fun d m1 v H1 st mu rd ⟨ed, q⟩ => by
    subst ed
    cases rd
    refine ⟨rfl, ?_⟩
    refine q s H1 _ (e.step st mu) (z.step st) fun ds m2 vs H2 st2 mu2 rs q2 => ?_
    exact spD_of q2.1 ((e.step st mu).step st2 mu2) ((z.step st).step st2) ((g.step st).step st2) rs q2.2 fun _ _ q => q
end
/-! ### & -/
section
variable {X : Cx} {W : WX} {E : ET} {r : Rho} {m : Mu} {K : KT} {G : Gx} {j k : Nat} {C : Addr} {ns ns' : List Str} {ds ds' : List D} {S : SpecD} {d d' : D}
def oAnd (G : Gx) (j : Nat) (W : WX) : O2 := oOwn2 G j W "__and__"
theorem os_and (hr : Room j X.A) (tk : L2N.Takes X W) : OpS X (binaryOp .BitAnd) (oAnd (Gx.of X) j W) := os_own2 (op := .BitAnd) hr tk
theorem w2_andO (O : Opr G k C "__and__" 2 S) (hk : k ≤ j) (i : FldD d m C ns ds) (i' : FldD d' m C ns' ds') (h : S [d, d'] m K fun x m' => E x r m') : W2 W E (oAnd G j W) d d' r m K := w2_own O hk i i' h
/-! ### texts -/
theorem w2_addStr {a b : Str} (l : a.length + b.length ≤ sizeLine) (h : K (.str (a ++ b)) m) : W2 W E (oAdd G j W) (.str a) (.str b) r m K := w2_val (fun _ _ _ => rstr) (fun _ _ _ => rstr) (fun _ _ => .str _) (fun _ _ _ q => .inr (.inl ⟨a, b, rfl, rfl, l, q⟩)) h
theorem w2_neSame {a : Str} (h : K (.bl false) m) : W2 W E (oNeF G j W) (.str a) (.str a) r m K := w2_val (fun _ _ _ => rstr) (fun _ _ _ => rstr) (fun _ _ => .bl _) (fun _ _ _ q => .inl ⟨rfl, by rw [decide_eq_true (rfl : V.str a = V.str a)]; exact q⟩) h
theorem w2_eqSame {a : Str} (h : K (.bl true) m) : W2 W E (oEqF G j W) (.str a) (.str a) r m K := w2_val (fun _ _ _ => rstr) (fun _ _ _ => rstr) (fun _ _ => .bl _) (fun _ _ _ q => .inl ⟨rfl, by rw [decide_eq_true (rfl : V.str a = V.str a)]; exact q⟩) h
end
theorem int_len {i : Int} {k : Nat} (hk : 0 < k) (h : i.natAbs.log2 < k) : (Str.ofString (toString i)).length ≤ k + 1 := by
  rw [PySem.ofString_length]
  exact int_text_length_le hk h
/-! ### == of plain data in an except suite -/
section
variable {X : Cx} {W : WX} {E : ET} {r : Rho} {m : Mu} {K : KT} {G : Gx} {j k : Nat} {d d' : D}
def oEqHF (G : Gx) : O2 := fun x y _ H Q => rEq x y H Q ∨ rEqD G.K x y H Q
def oNeHF (G : Gx) : O2 := fun x y _ H Q => rNe x y H Q ∨ rNeD G.K x y H Q
theorem roomH64 {A : Around} (hr : L2H.RoomH j A) : A.units + 64 < cLine := by have := hr.un; omega
theorem os_eqHF (hr : L2H.RoomH j X.A) : OpS X (compareOp .Eq) (oEqHF (Gx.of X)) := (OpS.of op_eq).or (OpS.of (op_eqD (roomH64 hr)))
theorem os_neHF (hr : L2H.RoomH j X.A) : OpS X (compareOp .NotEq) (oNeHF (Gx.of X)) := (OpS.of op_ne).or (OpS.of (op_neD (roomH64 hr)))
theorem w2_eqHFI {i k : Int} (h : K (.bl (decide (i = k))) m) : W2 W E (oEqHF G) (.int i) (.int k) r m K := w2_val (fun _ _ _ => rint) (fun _ _ _ => rint) (fun _ _ => .bl _) (fun _ _ _ q => .inl ⟨rfl, by rw [dec_int, ← Bool.beq_eq_decide_eq] at *; exact q⟩) h
theorem w2_neHFI {i k : Int} (h : K (.bl (!decide (i = k))) m) : W2 W E (oNeHF G) (.int i) (.int k) r m K := w2_val (fun _ _ _ => rint) (fun _ _ _ => rint) (fun _ _ => .bl _) (fun _ _ _ q => .inl ⟨rfl, by rw [dec_int, ← Bool.beq_eq_decide_eq] at *; exact q⟩) h
theorem w2_eqHFs {p : PyData} (h1 : PD d p) (s1 : SeqAt.shaped p = true) (h : K (.bl true) m) : W2 W E (oEqHF G) d d r m K := fun s H Q a b e z ra rb g =>
  .inr ⟨p, p, h1.dp ra, h1.dp rb, s1, s1, g _ m _ H (Stp.refl _ _) e.mu (.bl _) (by rw [PySem.SeqAt.eqv_refl p (SeqAt.canLay_of_shaped s1)]; exact h)⟩
end
/-! ### a stronger promise gives a weaker one -/
theorem Fnx.imp {G : Gx} {k n : Nat} {f : Addr} {S S' : SpecD} {dd : List D} (F : Fnx G k f n S dd) (h : ∀ ds m K E, S' ds m K E → S ds m K E) : Fnx G k f n S' dd := by
  obtain ⟨⟨fd, ps, ds, F, b, d⟩, cs⟩ := F
  exact ⟨⟨fd, ps, ds, F.imp fun vs H Q E ⟨ds, m, K, E', a, b, c, q, d, e⟩ => ⟨ds, m, K, E', a, b, c, h _ _ _ _ q, d, e⟩, b, d⟩, cs⟩
theorem Mak.imp {G : Gx} {k n : Nat} {x : Str} {C : Addr} {S S' : SpecD} {dd : List D} (M : Mak G k x C n S dd) (h : ∀ ds m K E, S' ds m K E → S ds m K E) : Mak G k x C n S' dd :=
  ⟨let ⟨f, F, M⟩ := M.ex; ⟨f, F.imp h, M⟩, M.mgC⟩
end DL
set_option Elab.async false
set_option linter.all false
set_option maxRecDepth 100000
/-! DL15: an own instance ** a number. -/
namespace DL
open PySem PySem.Spec L2
open PyProof.Rows hiding St
structure PowC (K : PySem.W.Frag) (C : Addr) : Prop where
  rp : PySem.W.findIn K (.ref C) (dunderR "pow") = some none
  sb : PySem.W.subIn K (.type "int") (.ref C) = some false
section
variable {X : Cx} {W : WX} {j : Nat}
def oOwnI (G : Gx) (j : Nat) (W : WX) : O2 := fun x y σ H Q => ∃ (a C dx : Addr) (fs : List (Str × V)) (k : Nat) (S : SpecD) (i : Int), x = .ref a ∧ H a = some (.ins C dx fs) ∧ y = .int i ∧ PowC G.K C ∧ k ≤ j ∧ Opr G k C "__pow__" 2 S ∧ spD 2 S [x, y] H Q (WE W σ)
theorem os_ownI (hr : Room j X.A) (tk : L2N.Takes X W) : OpS X (binaryOp .Pow) (oOwnI (Gx.of X) j W) := by
  intro pins s σ H x y u v Q I rx ry h
  obtain ⟨a, C, dx, fs, k, S, i, rfl, ha, rfl, pc, hk, O, q⟩ := h
  obtain rfl : u = Value.ref a := rx
  obtain ⟨t, e⟩ := (show ∃ t, v = Value.int i t from ry)
  subst e
  obtain ⟨f, ⟨⟨fd, ps, ds, F, bd, d⟩, cs⟩, h1, h2⟩ := O.ex
  obtain ⟨od, J⟩ := inst_of I ha
  obtain ⟨m, fr⟩ := I.fr
  refine PySem.W.ksp_binT (T := "int") (op := .Pow) (rc := none) fr I.ok.mod.kin J rfl O.sf h1 h2 pc.rp (.inl rfl) rfl rfl pc.sb ?_
  exact wpAny_mono (run_fnSD (E := WE W) (us := [.ref a, .int i t]) (vs := [.ref a, .int i]) F (hr.mono hk) bd d (L2N.passAt tk σ) I (.cons rfl (.cons ry .nil)) q) (fun r s' hq => back_of hq) fun _ _ z => z
def oPowF (G : Gx) (j : Nat) (W : WX) : O2 := fun x y s H Q => rI CPow (fun i j => .int (i ^ j.toNat)) x y H Q ∨ oOwnI G j W x y s H Q
theorem os_powF (hr : Room j X.A) (tk : L2N.Takes X W) : OpS X (binaryOp .Pow) (oPowF (Gx.of X) j W) := (OpS.of op_pow).or (os_ownI hr tk)
end
section
variable {W : WX} {E : ET} {r : Rho} {m : Mu} {K : KT} {G : Gx} {j k : Nat} {C : Addr} {ns : List Str} {ds : List D} {S : SpecD} {d : D}
theorem w2_powF {i k : Int} (h : CPow i k ∧ K (.int (i ^ k.toNat)) m) : W2 W E (oPowF G j W) (.int i) (.int k) r m K := w2_val (fun _ _ _ => rint) (fun _ _ _ => rint) (fun _ _ => .int _) (fun _ _ _ q => .inl ⟨i, k, rfl, rfl, h.1, q⟩) h.2
theorem w2_powO {i : Int} (O : Opr G k C "__pow__" 2 S) (hk : k ≤ j) (fi : FldD d m C ns ds) (pc : PowC G.K C) (h : S [d, .int i] m K fun x m' => E x r m') : W2 W E (oPowF G j W) d (.int i) r m K := fun s H Q a b e z ra rb g => by
  obtain ⟨p, dx, gs, rfl, hp, _⟩ := fi.look e.mu ra
  cases rb
  exact .inr ⟨p, C, dx, gs, k, S, i, rfl, hp, rfl, pc, hk, O, spD_of rfl e z g (.cons ra (.cons (.int i) .nil)) h fun _ _ q => q⟩
end
end DL
set_option Elab.async false
set_option linter.all false
set_option maxRecDepth 100000
/-! DL16: a field written anew; a list that is not written any more. -/
namespace DL
open PySem PySem.Spec L2
open PyProof.Rows hiding St
def setF (f : Str) : List Str → List D → D → List D
  | n :: ns, d :: ds, x => if f = n then x :: ds else d :: setF f ns ds x
  | _, ds, _ => ds
theorem RepF.put {M : Addr → Prop} {H : Hp} {f : Str} {x : D} {y : V} (q : Rep M H x y) : ∀ {n : List Str} {d : List D} {v : List (Str × V)}, RepF M H n d v → n.contains f = true → RepF M H n (setF f n d x) (putF f y v)
  | _, _, _, .nil, h => by cases h
  | n :: ns, d :: ds, (_, v) :: vs, .cons r t, h => by
    unfold setF
    by_cases e : f = n
    · subst e
      rw [if_pos rfl]
      have e0 : putF f y ((f, v) :: vs) = (f, y) :: vs := by
        show (if f = f then (f, y) :: vs else (f, v) :: putF f y vs) = _
        rw [if_pos rfl]
      rw [e0]
      exact .cons q t
    · rw [if_neg e]
      have e0 : putF f y ((n, v) :: vs) = (n, v) :: putF f y vs := by
        show (if n = f then (n, y) :: vs else (n, v) :: putF f y vs) = _
        rw [if_neg (Ne.symm e)]
      rw [e0]
      have h' : ns.contains f = true := by
        rw [List.contains_cons] at h
        have : (f == n) = false := by simpa using e
        rw [this, Bool.false_or] at h
        exact h
      exact .cons r (RepF.put q t h')
section
variable {W : WX} {E : ET} {r : Rho} {m : Mu} {K : KT} {P : DEnds} {G : Gx} {te to : TE} {t : TS}
theorem ws_fldS {f : Str} (h : We W E te r m fun d m1 => We W E to r m1 fun o m2 => ∃ p C ns ds m3, o = .ref p ∧ At m2 p (.ins C ns ds) ∧ Cls G.K C ∧ NoAttr G.K C f ∧ ns.contains f = true ∧ Nat.ble ns.length 900 = true ∧ Put m2 p (.ins C ns (setF f ns ds d)) m3 ∧ P.nx r m3) : Ws W E (sFld G.K to te f) r m P := fun s H De e z g =>
  h s H _ e z fun d m1 v H1 s1 mu1 r1 q1 => q1 s H1 _ (e.step s1 mu1) (z.step s1) fun o m2 vo H2 s2 mu2 r2 q2 => by
    obtain ⟨p, C, ns, ds, m3, rfl, ha, hc, hn, hf, hl, hp, k⟩ := q2
    cases r2
    have q := ha.rep mu2
    cases q with
    | ins hh rf =>
      have st : ∀ o, Stp (dom m2) H2 (dom m3) (upd H2 p o) := fun o => hp.stp
      refine ⟨p, C, _, _, rfl, hh, hc, hn, by rw [rf.lens]; have := Nat.le_of_ble_eq_true hl; omega, ?_⟩
      exact g.nx r m3 s _ ((s1.trans s2).trans (st _)) (((e.step s1 mu1).step s2 mu2).step (st _) (hp.mut mu2 (.ins upd_same ((RepF.put (r1.mono s2) rf hf).mono (st _))))) k
theorem set_same {α : Type} : ∀ {l : List α} {i : Nat} {a : α}, l[i]? = some a → l.set i a = l
  | [], _, _, h => by simp at h
  | x :: l, 0, a, h => by
    simp at h
    subst h
    rfl
  | x :: l, i + 1, a, h => by
    have h' : l[i]? = some a := by simpa using h
    rw [List.set_cons_succ, set_same h']
/-- a list that is not written any more -/
theorem Ws.freeze {i : Nat} {p : Addr} {xs : List D} (hr : r[i]? = some (some (.ref p))) (h : Ws W E t (r.set i (some (.lst xs))) m P) : Ws W E t r ((p, .lst xs) :: m) P := fun s H De e z g => by
  have mu := e.mu
  have ls : Stp (dom ((p, MO.lst xs) :: m)) H (dom m) H := Stp.less fun a z => dom_cons.mpr (.inr z)
  have nd := mu.notin
  have at1 := (At.head (m := m) (p := p) (o := .lst xs)).rep mu
  cases at1 with
  | lst hh rf =>
    have e2 : EnvR (r.set i (some (.lst xs))) m s H := by
      have e1 := e.env.mono ls
      obtain ⟨y, hy, ry⟩ := e1.get hr
      cases ry
      have q := e1.set (.some (.lst nd (.inl hh) (rf.mono ls))) i
      rw [set_same hy] at q
      exact ⟨q, mu.drop⟩
    exact h s H De e2 (z.step ls) ⟨fun r' m' s' H' a b k => g.nx r' m' s' H' (ls.trans a) b k, fun d m' v H' a b c k => g.rt d m' v H' (ls.trans a) b c k, fun r' m' s' H' a b k => g.bk r' m' s' H' (ls.trans a) b k, fun r' m' s' H' a b k => g.ct r' m' s' H' (ls.trans a) b k⟩
end
end DL
set_option Elab.async false
set_option linter.all false
set_option maxRecDepth 100000
/-! DL17: how often a bool stands in a list; bit_length. -/
namespace DL
open PySem PySem.Spec L2
open PyProof.Rows hiding St
section
variable {X : Cx}
def eqb (k : Bool) : Value → Bool
  | .bool b => b == k
  | _ => false
theorem eqb_count (k : Bool) : ∀ bs : List Bool, (bs.map Value.bool).countP (eqb k) = bs.count k
  | [] => rfl
  | b :: bs => by
    rw [List.map_cons, List.countP_cons, eqb_count k bs, List.count_cons]
    rfl
def rCntB (K : PySem.W.Frag) : V → List V → Hp → VK → Prop := fun x xs H Q => ∃ (p : Addr) (bs : List Bool) (k : Bool), x = .ref p ∧ xs = [.bl k] ∧ SqL K H p (bs.map V.bl) ∧ Q (.int (bs.count k : Nat)) H
theorem mt_bcount : MtR X "list.count" (rCntB X.K) := by
  intro pins s σ H x xs v us Q I rx rxs h
  obtain ⟨p, bs, k, rfl, rfl, hs, q⟩ := h
  cases rx
  obtain ⟨u, rfl, ru⟩ := rxs.one
  cases ru
  obtain ⟨its, rv, ⟨⟨cls, dd, data, sl⟩, n, ho, hc, hdn, hd⟩, hlen⟩ := I.list hs
  simp only at hc hd
  subst hc hd
  have hb := rv.bls
  subst hb
  refine call_meets PySem.F.slot_list_count ⟨_, ho, rfl⟩ PySem.F.entry_list_count (PySem.F.args_list_count_2 _ _)
    (SeqAt.list_countAt p (bs.map Value.bool).toArray n dd sl (.bool k) (eqb k)) ⟨ho, fun y hy => ?_, ?_⟩
  · have hy' : y ∈ bs.map Value.bool := by simpa using hy
    obtain ⟨b, _, rfl⟩ := List.mem_map.mp hy'
    exact SeqAt.EqAt.bool_bool b k
  have ec : (bs.map Value.bool).toArray.toList.countP (eqb k) = bs.count k := eqb_count k bs
  refine ⟨.int (bs.count k : Nat), H, I.tok _, ⟨s.toks, ?_⟩, q⟩
  show Value.int (((bs.map Value.bool).toArray.toList.countP (eqb k) : Nat) : Int) s.toks = Value.int ((bs.count k : Nat) : Int) s.toks
  rw [ec]
end
section
variable {W : WX} {E : ET} {r : Rho} {m : Mu} {K : KT} {to : TE}
theorem we_bits (h : We W E to r m fun d m1 => ∃ i, d = .int i ∧ K (.int (Builtin.Int.intBits i : Nat)) m1) : We W E (tBits to) r m K := fun s H Q e z g =>
  h s H _ e z fun d m1 v H1 s1 mu1 r1 ⟨i, ed, k⟩ => by
    subst ed
    cases r1
    exact ⟨i, rfl, g _ m1 _ H1 s1 mu1 (.int _) k⟩
end
end DL
set_option Elab.async false
set_option linter.all false
set_option maxRecDepth 100000
/-! DQ4: Ratio's powers; Bars. -/
namespace DL
open PySem PySem.Spec L2
open PyProof.Rows hiding St
section
variable {W : WX} {E : ET} {ta : TA} {r : Rho} {m : Mu} {K : KT} {C Z : Addr} {F : Ex → Mu → Prop} {x y : Rat} {G : Gx} {j k : Nat}
/-! ### powers -/
theorem dv_pow (a b : Int) : ∀ n : Nat, dv (a ^ n) (b ^ n) = (dv a b) ^ n
  | 0 => by
    rw [Int.pow_zero, Int.pow_zero, Rat.pow_zero]
    rfl
  | n + 1 => by
    rw [Rat.pow_succ, ← dv_pow a b n, mul_dv, Int.pow_succ, Int.pow_succ]
theorem pow_ne_zeroI {x : Int} (h : x ≠ 0) : ∀ n : Nat, x ^ n ≠ 0
  | 0 => by rw [Int.pow_zero]; decide
  | n + 1 => by rw [Int.pow_succ]; exact Int.mul_ne_zero (pow_ne_zeroI h n) h
theorem Bd.pow {a : Nat} {x : Int} (h : Bd a x) : ∀ n : Nat, Bd (n * a + 1) (x ^ n)
  | 0 => by
    rw [Int.pow_zero]
    exact (bd_lit (n := 1) (by decide)).mono (by omega)
  | n + 1 => by
    rw [Int.pow_succ]
    exact ((Bd.pow h n).mul h).mono (by rw [Nat.succ_mul]; omega)
def S_qraised (C Z : Addr) : SpecD := fun ds m K E => ∃ x n a, ds = [rq C x, .int n] ∧ Qb a x ∧ a ≤ 100 ∧
  ((¬ (0 ≤ n ∧ n ≤ 64) ∧ E ⟨Z, ["value"], [.int n]⟩ m) ∨ (0 ≤ n ∧ n ≤ 64 ∧ K (rq C (x ^ n.toNat)) m))
theorem use_qraised {n : Int} {a : Nat} (h : Qb a x) (ha : a ≤ 100) (h0 : 0 ≤ n) (h1 : n ≤ 64) (q : K (rq C (x ^ n.toNat)) m) : S_qraised C Z [rq C x, .int n] m K F := ⟨x, n, a, rfl, h, ha, .inr ⟨h0, h1, q⟩⟩
end
end DL
set_option Elab.async false
set_option linter.all false
set_option maxRecDepth 100000
/-! DL18: two new lists joined. -/
namespace DL
open PySem PySem.Spec L2
open PyProof.Rows hiding St
section
variable {W : WX} {E : ET} {r : Rho} {m : Mu} {K : KT} {G : Gx} {j : Nat}
/-- xs + zs: both were made just now; neither is written any more -/
theorem w2_catM {a b : Addr} {xs zs : List D} (hl : Nat.ble (xs.length + zs.length) 1000 = true) (h : K (.lst (xs ++ zs)) m) : W2 W E (oAdd G j W) (.ref a) (.ref b) r ((b, .lst zs) :: (a, .lst xs) :: m) K := fun s H Q x y e z rx ry g => by
  cases rx
  cases ry
  have q1 := (At.tail .head : At ((b, MO.lst zs) :: (a, MO.lst xs) :: m) a (.lst xs)).rep e.mu
  have q2 := (At.head : At ((b, MO.lst zs) :: (a, MO.lst xs) :: m) b (.lst zs)).rep e.mu
  have mu := e.mu.drop.drop
  have ls : Stp (dom ((b, MO.lst zs) :: (a, MO.lst xs) :: m)) H (dom m) H := Stp.less fun a z => dom_cons.mpr (.inr (dom_cons.mpr (.inr z)))
  cases q1 with
  | lst h1 r1 =>
    cases q2 with
    | lst h2 r2 =>
      refine .inr (.inr (.inl ⟨a, b, _, _, rfl, rfl, .inl h1, .inl h2, ?_, fun p hp => ?_⟩))
      · rw [← r1.length, ← r2.length]
        exact Nat.le_trans (Nat.le_of_ble_eq_true hl) (by decide : 1000 ≤ sizeLine)
      · exact g _ m _ _ (ls.trans (Stp.new hp)) (mu.new hp) (.lst (fun zz => by obtain ⟨u, hu⟩ := mu.there zz; rw [hp] at hu; cases hu) (.inl upd_same) ((Reps.append r1 r2).mono (ls.trans (Stp.new hp)))) h
/-- the two newest mutable objects the other way round -/
theorem Ws.swap {t : TS} {P : DEnds} {p q : Addr × MO} (h : Ws W E t r (q :: p :: m) P) : Ws W E t r (p :: q :: m) P := fun s H De e z g => by
  have ls : Stp (dom (p :: q :: m)) H (dom (q :: p :: m)) H := Stp.less fun a z => by
    rcases dom_cons.mp z with z | z
    · exact dom_cons.mpr (.inr (dom_cons.mpr (.inl z)))
    · rcases dom_cons.mp z with z | z
      · exact dom_cons.mpr (.inl z)
      · exact dom_cons.mpr (.inr (dom_cons.mpr (.inr z)))
  have mu := e.mu
  have nd := mu.nd
  have mu2 : MutR (q :: p :: m) H := by
    refine ⟨?_, fun x hx => ?_⟩
    · simp only [List.map_cons] at nd ⊢
      have h1 := List.nodup_cons.mp nd
      have h2 := List.nodup_cons.mp h1.2
      refine List.nodup_cons.mpr ⟨fun z => ?_, List.nodup_cons.mpr ⟨fun z => h1.1 (List.mem_cons_of_mem _ z), h2.2⟩⟩
      rcases List.mem_cons.mp z with z | z
      · exact h1.1 (by rw [← z]; exact List.mem_cons_self)
      · exact h2.1 z
    · have hx' : x ∈ p :: q :: m := by
        rcases List.mem_cons.mp hx with z | z
        · exact List.mem_cons_of_mem _ (by rw [z]; exact List.mem_cons_self)
        · rcases List.mem_cons.mp z with z | z
          · rw [z]; exact List.mem_cons_self
          · exact List.mem_cons_of_mem _ (List.mem_cons_of_mem _ z)
      exact (mu.at_ x hx').mono ls fun _ e => e
  exact h s H De ⟨e.env.mono ls, mu2⟩ (z.step ls) ⟨fun r' m' s' H' a b k => g.nx r' m' s' H' (ls.trans a) b k, fun d m' v H' a b c k => g.rt d m' v H' (ls.trans a) b c k, fun r' m' s' H' a b k => g.bk r' m' s' H' (ls.trans a) b k, fun r' m' s' H' a b k => g.ct r' m' s' H' (ls.trans a) b k⟩
/-- xs.count(k), bools all -/
theorem we_bcnt {to : TE} {ta : TA} (h : We W E to r m fun o m1 => ∃ (xs : List D) (bs : List Bool), o = .lst xs ∧ xs = bs.map D.bl ∧ Wa W E ta r m1 fun ds m2 => ∃ k, ds = [.bl k] ∧ K (.int (bs.count k : Nat)) m2) : We W E (tBM G.K "list" (rCntB G.K) to ta) r m K := fun s H Q e z g =>
  h s H _ e z fun o m1 v H1 s1 mu1 r1 q => by
    obtain ⟨xs, bs, rfl, rfl, q⟩ := q
    cases r1 with
    | @lst a _ vs mm hh rr =>
      have e1 := rep_bls rr
      subst e1
      refine ⟨Or.inl ⟨rfl, _, rd_l hh⟩, ?_⟩
      refine q s H1 _ (e.step s1 mu1) (z.step s1) fun ds m2 vs H2 s2 mu2 r2 q2 => ?_
      obtain ⟨k, rfl, kk⟩ := q2
      cases r2 with
      | cons rd t =>
        cases t
        cases rd
        exact ⟨a, bs, k, rfl, rfl, rd_l (s2.rd mm hh).1, g _ m2 _ _ (s1.trans s2) mu2 (.int _) kk⟩
end
section
variable {X : Cx} {KK : PySem.W.Frag} {o e : Expr} {es : List Expr} {to : TE} {t : TA} {apos cpos : Pos}
/-- .. as a term, also within an except suite -/
theorem pe_cntK (hK : X.K = KK) (ho : PE X o to) (ha : PA X (e :: es) t)
    (hbase : attributeBase o "count" X.env (eval o X.env) = eval o X.env := by rfl)
    (hfew : ((backTo cpos (starEach (e :: es) X.env)).all (fun x => !x.1) && (backToKw cpos (keywordEach [] X.env)).all (fun x => x.1.isSome)
      && decide ((e :: es).length + ([] : List Keyword).length + (if ([] : List Keyword).isEmpty then 0 else 1) < 30)) = true := by rfl)
    (hline : (apos.endLine == cpos.line) = true := by rfl) (hs : starEach (e :: es) X.env = (false, eval e X.env) :: starEach es X.env := by rfl) (hplain : (backTo cpos (starEach es X.env)).any (·.1) = false := by rfl) :
    PE X (.Call (.Attribute o "count" apos) (e :: es) [] cpos) (tBM KK "list" (rCntB KK) to t) := by
  subst hK
  exact pe_bm PySem.F.plainAttrs_list PySem.F.slot_list_count PySem.F.type_list_count mt_bcount ho ha hbase hfew hline hs hplain
end
end DL
set_option Elab.async false
set_option linter.all false
set_option maxRecDepth 100000
/-! DL19: try with several clauses, each with a name: except X as n: .., except Y as k: .. -/
namespace DL
open PySem PySem.Spec L2
open PyProof.Rows hiding St
section
variable {X : Cx} {pins : List (Addr × Obj)} {σ : L2.St} {H : Hp} {s sI : Shared} {a : Addr} {cls : Value} {d : Option Addr} {B : Heap}
/-- a caught exception at a: the state s is sI but for it -/
structure Got (X : Cx) (pins : List (Addr × Obj)) (σ : L2.St) (H : Hp) (sI s : Shared) (a : Addr) (cls : Value) (d : Option Addr) (B : Heap) : Prop where
  inv : Inv X pins σ H sI
  old : ∀ b o, sI.heap.get? b = some o → b ∉ frs X.stack → B.get? b = some o
  up : sI.heap.UpToSlots s.heap
  fly : HandSPX.FlyingZ B (X.env :: X.outer) a (L2N.Zn cls d) s.heap
  os : s.os = sI.os
  gens : AllBare s.gens
  na : H a = none
theorem Got.here (g : Got X pins σ H sI s a cls d B) : Inv X pins σ H s := g.inv.landed g.old g.fly.1 g.up g.os g.gens
theorem Got.again {h : Heap} (g : Got X pins σ H sI s a cls d B) (f : HandSPX.FlyingZ B (X.env :: X.outer) a (L2N.Zn cls d) h) (u : s.heap.UpToSlots h) : Got X pins σ H sI { s with heap := h } a cls d B :=
  ⟨g.inv, g.old, g.up.trans u, f, g.os, g.gens, g.na⟩
/-- the suite's state -/
theorem Got.low {oe : Obj} {vs : Array Value} (g : Got X pins σ H sI s a cls d B) (hf : X.env.frame = some X.env.locals) (ho : s.heap.get? a = some oe) (hd : oe.data = .fields vs) :
    Inv (X.suite a ((a, oe) :: (X.pn ++ pins))) [] σ H s := by
  have off : a ∉ frs (X.env :: X.outer) := fun m => by
    obtain ⟨_, u, e, n⟩ := g.fly.2.2.1.mem m
    cases ho.symm.trans e
    exact n _ hd
  refine g.here.suite ho hd g.na (fun e => off ?_) (fun m => off ?_)
  · exact List.mem_filterMap.mpr ⟨X.env, .head _, by rw [hf, e]⟩
  · obtain ⟨v, m1, m2⟩ := List.mem_filterMap.mp m
    exact List.mem_filterMap.mpr ⟨v, .tail _ m1, m2⟩
abbrev Hnd (X : Cx) (pins : List (Addr × Obj)) (D : Ends) (hs : List ExceptHandler) (a : Addr) (s : Shared) : Prop := wpAny (model X.prog X.w) X.A (handleBy (.ref a) X.env hs) (SP X pins D) X.xe s
/-- no clause is left: it flies on -/
theorem Got.none {W : WX} {D : Ends} (g : Got X pins σ H sI s a cls d B) (hs : X.stack = X.env :: X.outer) (hf : X.env.frame = some X.env.locals) (tk : L2N.Takes X W) (w : W cls d σ H) : Hnd X pins D [] a s := by
  refine wpAny_handleBy_nil ?_
  obtain ⟨oe, vs, t, ot, ts, ho, _, hd, h1, _⟩ := id g.fly.2.2.2
  have fin : wpAny (model X.prog X.w) X.A (setFlight (.ref a) X.env.frame) (fun _ s1 => wpAny (model X.prog X.w) X.A (throw (.ref a) : Sem Flow) (SP X pins D) X.xe s1) X.xe s := by
    rw [hf]
    exact HandSPX.setFlight_upZ g.fly fun h hh u => wpAny_throw (tk _ _ ⟨a, B, sI, pins, σ, H, cls, d, rfl, g.inv, g.old, g.up.trans u, .inr (.inr (by rw [hs]; exact hh)), g.na, g.os, g.gens, w⟩)
  unfold PySem.passOn
  refine wpAny_bind (wpAny_field ho hd h1 ?_)
  have nn : ¬ (Value.ref t == Value.none) = true := by simp
  rw [if_neg nn]
  first
    | exact wpAny_bind (wpAny_pure (wpAny_bind fin))
    | exact wpAny_bind fin
/-- one clause is asked; it takes it, or the others are asked -/
theorem Got.clause {x n : Str} {c : Value} {i : Nat} {b₀ : Stmt} {suite : List Stmt} {np p2 : Pos} {rest : List ExceptHandler} {ts : Addr → Value → Option Addr → TS} {W : WX} {D : Ends} (g : Got X pins σ H sI s a cls d B)
    (hf : X.env.frame = some X.env.locals) (hN : X.N.Nodup) (hi : X.N[i]? = some n) (hl : X.env.kindOf n = some .local) (hc : Names X x c)
    (su : ∀ (a : Addr) (oe : Obj) (cls : Value) (d : Option Addr) (pn : List (Addr × Obj)), L2N.Zn cls d oe → (∃ vs, oe.data = .fields vs) → PSs (X.suite a ((a, oe) :: pn)) (b₀ :: suite) (ts a cls d))
    (w : wAs X.K c i ts W D cls d σ H) (k : W cls d σ H → Hnd X pins D rest a s) : Hnd X pins D (.ExceptHandler (some (.Name x np)) (some n) (b₀ :: suite) p2 :: rest) a s := by
  obtain ⟨oe, vs, ho, hz, hd⟩ := g.fly.there
  have low := g.low hf ho hd
  obtain ⟨b, hb, yes, no⟩ := w
  refine wpAny_handleBy_cons (codeAny_handlers_test ?_) (fun q => nomatch q)
  have ask : ∀ {Q E : Value → Shared → Prop}, Q c s → wpAny (model X.prog X.w) (X.A.mark (some (.ref a))) (eval (.Name x np) X.env) Q E s := fun q => by
    rcases hc with ⟨h1, h2, h3 | ⟨h3, h4, h5⟩⟩
    · exact ld_glob (X := X.suite a ((a, oe) :: (X.pn ++ pins))) low h1 h3 q h2
    · exact ld_blt (X := X.suite a ((a, oe) :: (X.pn ++ pins))) low h1 h3 h4 q h5 h2
  have ty : PySem.W.Looks (model X.prog X.w) s.heap (typeOf (.ref a)) cls := fun A Q E z l q => wpAny_typeOf_ref (l _ _ ho) (by rw [hz.1]; exact q)
  refine ask ((PySem.W.exm_one (M := model X.prog X.w) g.here.kIn ty hb).here ?_)
  cases b with
  | false => exact k (no rfl)
  | true =>
    refine codeAny_handlers_suite_as (HandSPX.lands_againZ g.fly fun h fl u => ?_)
    have g2 := g.again fl u
    obtain ⟨oe2, vs2, ho2, hz2, hd2⟩ := g2.fly.there
    refine store_ok (X := X.suite a ((a, oe2) :: (X.pn ++ pins))) (v := .ref a) (g2.low hf ho2 hd2) hN hi (.inl hl) rfl (fun s5 S5 => ?_) (.inr hl)
    have run := (su a oe2 cls d (X.pn ++ pins) hz2 ⟨vs2, hd2⟩).run [] s5 _ H _ S5 (yes rfl a g.na)
    refine wpAny_mono run (fun f s6 z => ?_) (fun _ _ z => z.elim)
    have bye : ∀ {σ6 : L2.St} {H6 : Hp} {Q : Shared → Prop}, Inv (X.suite a ((a, oe2) :: (X.pn ++ pins))) [] σ6 H6 s6 → (∀ s7, Inv X pins (σ6.set i Option.none) H6 s7 → Q s7) →
        wpAny (model X.prog X.w) X.A (do bindName X.env n .none; unbindBehindTheSuite X.env n p2) (fun _ s7 => Q s7) X.xe s6 := fun S6 q => gone_ok (S6.unsuite g.inv.ok) hN hi hl q
    cases f with
    | ret u =>
      obtain ⟨v, σ6, H6, S6, rv, q⟩ := z
      exact bye S6 fun s7 J => ⟨_, _, _, J, rv, q⟩
    | next =>
      obtain ⟨σ6, H6, S6, q⟩ := z
      exact bye S6 fun s7 J => ⟨_, _, J, q⟩
    | brk =>
      obtain ⟨σ6, H6, S6, q⟩ := z
      exact bye S6 fun s7 J => ⟨_, _, J, q⟩
    | cont =>
      obtain ⟨σ6, H6, S6, q⟩ := z
      exact bye S6 fun s7 J => ⟨_, _, J, q⟩
end
def tTry2 (K : PySem.W.Frag) (c1 : Value) (i1 : Nat) (t1 : Addr → Value → Option Addr → TS) (c2 : Value) (i2 : Nat) (t2 : Addr → Value → Option Addr → TS) (tb : WX → TS) (W : WX) : TS := fun D σ H => tb (wAs K c1 i1 t1 (wAs K c2 i2 t2 W D) D) D σ H
theorem ps_tryD2 {X : Cx} {x1 n1 x2 n2 : Str} {c1 c2 : Value} {i1 i2 : Nat} {b1 b2 : Stmt} {body su1 su2 : List Stmt} {np1 np2 p1 p2 pos : Pos} {tb : WX → TS} {t1 t2 : Addr → Value → Option Addr → TS} {W : WX}
    (hs : X.stack = X.env :: X.outer) (hf : X.env.frame = some X.env.locals) (hN : X.N.Nodup) (hi1 : X.N[i1]? = some n1) (hl1 : X.env.kindOf n1 = some .local) (hi2 : X.N[i2]? = some n2) (hl2 : X.env.kindOf n2 = some .local) (hc1 : Names X x1 c1) (hc2 : Names X x2 c2) (tk : L2N.Takes X W)
    (hb : ∀ (W : WX) (pn : List (Addr × Obj)) (xe : Value → Shared → Prop), L2N.Takes (X.tr pn xe) W → PassesOwn (model X.prog X.w) X.A X.env xe → PSs (X.tr pn xe) body (tb W))
    (hsu1 : ∀ (a : Addr) (oe : Obj) (cls : Value) (d : Option Addr) (pn : List (Addr × Obj)), L2N.Zn cls d oe → (∃ vs, oe.data = .fields vs) → PSs (X.suite a ((a, oe) :: pn)) (b1 :: su1) (t1 a cls d))
    (hsu2 : ∀ (a : Addr) (oe : Obj) (cls : Value) (d : Option Addr) (pn : List (Addr × Obj)), L2N.Zn cls d oe → (∃ vs, oe.data = .fields vs) → PSs (X.suite a ((a, oe) :: pn)) (b2 :: su2) (t2 a cls d)) :
    PS X (.Try body [.ExceptHandler (some (.Name x1 np1)) (some n1) (b1 :: su1) p1, .ExceptHandler (some (.Name x2 np2)) (some n2) (b2 :: su2) p2] [] [] pos) (tTry2 X.K c1 i1 t1 c2 i2 t2 tb W) := by
  constructor
  intro pins s σ H D I h
  have ok := I.ok
  refine wpAny_Try_except ?_
  have B := hb (wAs X.K c1 i1 t1 (wAs X.K c2 i2 t2 W D) D) (X.pn ++ pins) (fun e s1 => wpAny (model X.prog X.w) X.A (noteFrame e X.env) (fun _ s2 => wpAny (model X.prog X.w) X.A (setFlight e none)
    (fun _ s3 => wpAny (model X.prog X.w) X.A (handleBy e X.env [.ExceptHandler (some (.Name x1 np1)) (some n1) (b1 :: su1) p1, .ExceptHandler (some (.Name x2 np2)) (some n2) (b2 :: su2) p2]) (SP X pins D) X.xe s3) X.xe s2) X.xe s1) ?tk PassesOwn.looking
  case tk =>
    rintro u s' ⟨a, B, sI, pins', σ', H', cls, d, rfl, J, nb, up, sky, na, os, ag, w⟩
    refine L2N.Sky.land (env := X.env) (outer := X.outer) L2N.Zn.steady (by rw [ok.frames, hs]) hf (by rw [← hs]; exact sky) fun h3 fl up3 => ?_
    have g : Got X pins σ' H' sI { s' with heap := h3 } a cls d B := ⟨J.ofTry ok, nb, up.trans up3, fl, os, ag, na⟩
    exact g.clause hf hN hi1 hl1 hc1 hsu1 w fun w2 => g.clause hf hN hi2 hl2 hc2 hsu2 w2 fun w3 => g.none hs hf tk w3
  refine wpAny_mono (B.run [] s σ H D (I.toTry _) h) (fun f s1 z => ?_) fun e s1 z => z
  cases f with
  | next =>
    obtain ⟨σ', H', J, q⟩ := z
    exact wpAny_execs_nil ⟨σ', H', J.ofTry ok, q⟩
  | ret u =>
    obtain ⟨v, σ', H', J, r, q⟩ := z
    exact ⟨v, σ', H', J.ofTry ok, r, q⟩
  | brk =>
    obtain ⟨σ', H', J, q⟩ := z
    exact ⟨σ', H', J.ofTry ok, q⟩
  | cont =>
    obtain ⟨σ', H', J, q⟩ := z
    exact ⟨σ', H', J.ofTry ok, q⟩
section
variable {W : WX} {E : ET} {r : Rho} {m : Mu} {K : PySem.W.Frag} {P : DEnds} {c1 c2 : Value} {i1 i2 : Nat} {tb : WX → TS} {t1 t2 : Addr → Value → Option Addr → TS}
theorem wAs_rz {De : Ends} {c : Value} {i : Nat} {ts : Addr → Value → Option Addr → TS} {H : Hp} (z : Rz W E m H) (g : GoS m H P De) : Rz (wAs K c i ts W De) (eAs K c i ts P E) m H := by
  intro x r' m' cls dd s' H' st er rx ⟨b, hb, ht, hf⟩
  obtain rfl := rx.1
  refine ⟨b, hb, fun hbt a ha => ?_, fun hbf => z x r' m' _ dd s' H' st er rx (hf hbf)⟩
  have g' := g.step st
  refine ht hbt a dd _ H' _ (er.put (repX_exc rx)) (fun _ _ _ _ _ _ _ _ _ _ q => q.elim) ?_
  have back : ∀ {r2 : Rho} {m2 : Mu} {s2 : L2.St} {H2 : Hp}, EnvR r2 m2 s2 H2 → EnvR (r2.set i none) m2 (s2.set i none) H2 := fun e2 => ⟨e2.env.set (.none _) i, e2.mu⟩
  exact ⟨fun r2 m2 s2 H2 a2 b2 q => g'.nx _ m2 _ H2 a2 (back b2) q, g'.rt, fun r2 m2 s2 H2 a2 b2 q => g'.bk _ m2 _ H2 a2 (back b2) q, fun r2 m2 s2 H2 a2 b2 q => g'.ct _ m2 _ H2 a2 (back b2) q⟩
theorem ws_try2 (h : ∀ W', Ws W' (eAs K c1 i1 t1 P (eAs K c2 i2 t2 P E)) (tb W') r m P) : Ws W E (tTry2 K c1 i1 t1 c2 i2 t2 tb W) r m P := fun s H De e z g =>
  h _ s H De e (wAs_rz (wAs_rz z g) g) g
end
end DL
set_option Elab.async false
set_option linter.all false
set_option maxRecDepth 100000
/-! DL20: abs of an own instance; lists joined into a new one that is written later. -/
namespace DL
open PySem PySem.Spec L2
open PyProof.Rows hiding St
section
variable {X : Cx} {W : WX} {j k : Nat} {f : Addr} {fd : FuncData} {ps : List Str} {sp : Sp} {ds : List Value} {dvs : List V} {Ex : L2.St → XK} {CXx : CXT}
/-- an own def that a builtin calls -/
theorem run_in {pins : List (Addr × Obj)} {σ : L2.St} {H : Hp} {s : Shared} {Q : VK} {us : List Value} {vs : List V} (F : FnOk X.prog X.w X.K X.mg X.base CXx k f fd ps sp) (hr : Room (k + 1) X.A) (hb : Binds X.K fd ps ds) (hd : Vals dvs ds) (hx : PassesAt CXx X σ (Ex σ))
    (I : Inv X pins σ H s) (r : Vals vs us) (h : sp (vs ++ dvs) H Q (Ex σ)) : wpAny (model X.prog X.w) X.A.in1 (call (.ref f) us) (EP X pins σ Q) X.xe s := by
  have rr := r.append hd
  have n : (us ++ ds).length = ps.length := rr.length.symm.trans (F.len _ _ _ _ h)
  have go := F.run X.A.in1 X.stack s H ⟨us, []⟩ (us ++ ds) (vs ++ dvs) Q (Ex σ) hr.in1 I.env0.in1 (hb s us I.kIn n) rr h
  refine wpAny_call (codeAny_mono go ?_)
  intro res s' z
  match res, z with
  | .error e, z => exact hx pins H s e s' I z
  | .ok (.ret u), z => exact I.after z
  | .ok .next, z => exact z.elim
  | .ok .brk, z => exact z.elim
  | .ok .cont, z => exact z.elim
def cAbsO (G : Gx) (j : Nat) (W : WX) : OC := fun xs σ H Q => rAbsI xs H Q ∨ ∃ (a C dx : Addr) (fs : List (Str × V)) (k : Nat) (S : SpecD), xs = [.ref a] ∧ H a = some (.ins C dx fs) ∧ k + 1 ≤ j ∧ Opr G k C "__abs__" 1 S ∧ spD 1 S xs H Q (WE W σ)
theorem cs_absO (hr : Room j X.A) (tk : L2N.Takes X W) : CallS X (.builtin "abs") (cAbsO (Gx.of X) j W) := by
  intro pins s σ H xs us Q I ru h
  rcases h with h | h
  · exact cs_abs pins s σ H xs us Q I ru h
  · obtain ⟨a, C, dx, fs, k, S, rfl, ha, hk, O, q⟩ := h
    cases ru with
    | cons r t =>
      cases t
      obtain rfl : _ = Value.ref a := r
      obtain ⟨f, ⟨⟨fd, ps, ds, F, bd, d⟩, cs⟩, h1, h2⟩ := O.ex
      obtain ⟨od, J⟩ := inst_of I ha
      have run := run_in (Ex := WE W) (us := [.ref a]) (vs := [.ref a]) F (hr.mono hk) bd d (L2N.passAt tk σ) I (.cons rfl .nil) q
      refine Calls.call_function_entry kind_abs plain_abs entry_abs (args_abs _) ?_
      unfold Builtin.«abs»
      refine wpAny_bind (m := oneArg "abs" _) (wpAny_pure ?_)
      refine wpAny_bind (m := callSpecial? (.ref a) (Str.ofString "__abs__")) (PySem.W.special_fn I.kIn J h1 (beq_iff_eq.mp h2) ?_)
      refine wpAny_mono run (fun r s' hq => ?_) fun _ _ z => z
      exact wpAny_pure ⟨_, rfl, hq⟩
end
section
variable {W : WX} {E : ET} {r : Rho} {m : Mu} {K : KT} {G : Gx} {j k : Nat} {C : Addr} {ns : List Str} {ds : List D} {S : SpecD} {d : D}
theorem wc_absI {i : Int} (h : K (.int (i.natAbs : Int)) m) : Wc W E (cAbsO G j W) [.int i] r m K := fun s H Q vs e z rs g => .inl (wc_abs (K := K) h s H Q vs e z rs g)
theorem wc_absO (O : Opr G k C "__abs__" 1 S) (hk : k + 1 ≤ j) (fi : FldD d m C ns ds) (h : S [d] m K fun x m' => E x r m') : Wc W E (cAbsO G j W) [d] r m K := fun s H Q vs e z rs g => by
  cases rs with
  | cons rv t =>
    cases t
    obtain ⟨p, dx, gs, rfl, hp, _⟩ := fi.look e.mu rv
    exact .inr ⟨p, C, dx, gs, k, S, rfl, hp, hk, O, spD_of rfl e z g (.cons rv .nil) h fun _ _ q => q⟩
/-- xs + zs, made just now, joined into a list that is written or joined again -/
theorem w2_catN {a b : Addr} {xs zs : List D} (hl : Nat.ble (xs.length + zs.length) 1000 = true) (h : ∀ p, ¬ dom m p → K (.ref p) ((p, .lst (xs ++ zs)) :: m)) : W2 W E (oAdd G j W) (.ref a) (.ref b) r ((b, .lst zs) :: (a, .lst xs) :: m) K := fun s H Q x y e z rx ry g => by
  cases rx
  cases ry
  have q1 := (At.tail .head : At ((b, MO.lst zs) :: (a, MO.lst xs) :: m) a (.lst xs)).rep e.mu
  have q2 := (At.head : At ((b, MO.lst zs) :: (a, MO.lst xs) :: m) b (.lst zs)).rep e.mu
  have mu := e.mu.drop.drop
  have ls : Stp (dom ((b, MO.lst zs) :: (a, MO.lst xs) :: m)) H (dom m) H := Stp.less fun a z => dom_cons.mpr (.inr (dom_cons.mpr (.inr z)))
  cases q1 with
  | lst h1 r1 =>
    cases q2 with
    | lst h2 r2 =>
      refine .inr (.inr (.inl ⟨a, b, _, _, rfl, rfl, .inl h1, .inl h2, ?_, fun p hp => ?_⟩))
      · rw [← r1.length, ← r2.length]
        exact Nat.le_trans (Nat.le_of_ble_eq_true hl) (by decide : 1000 ≤ sizeLine)
      · have st : ∀ o, Stp (dom ((b, MO.lst zs) :: (a, MO.lst xs) :: m)) H (dom ((p, MO.lst (xs ++ zs)) :: m)) (upd H p o) := fun o => ls.trans (Stp.newM hp)
        have nd : ¬ dom m p := fun w => by
          obtain ⟨u, hu⟩ := mu.there w
          rw [hp] at hu
          cases hu
        exact g _ _ _ _ (st _) (mu.newM hp (.lst upd_same ((Reps.append r1 r2).mono (st _)))) (.ref p) (h p nd)
end
end DL
set_option Elab.async false
set_option linter.all false
set_option maxRecDepth 100000
/-! DQ8: Ratio by its number, of any digits: what // by the greatest common divisor wants is said. -/
namespace DL
open PySem PySem.Spec L2
open PyProof.Rows hiding St
theorem CDivX.neg {i j : Int} (h : CDivX i j) : CDivX i (-j) := ⟨by have := h.1; omega, by rw [Int.natAbs_neg]; exact h.2⟩
/-- // by the greatest common divisor can be done -/
def Dok (t b : Int) : Prop := CDivX t (gc t b) ∧ CDivX b (gc t b)
theorem dok_bd {a : Nat} {t b : Int} (n : b ≠ 0) (h : Bd a b) (l : a < 9000) : Dok t b := by
  have g := gc_pos (t := t) n
  have gb := gc_bd (t := t) n h
  exact ⟨gb.divX (by omega) l, gb.divX (by omega) l⟩
theorem dok_gc {a : Nat} {t b : Int} (n : b ≠ 0) (h : Bd a (gc t b)) (l : a < 9000) : Dok t b := by
  have g := gc_pos (t := t) n
  exact ⟨h.divX (by omega) l, h.divX (by omega) l⟩
theorem gc_one {t b : Int} (h : Nat.gcd t.natAbs b.natAbs = 1) : gc t b = 1 := by
  unfold gc
  rw [h]
  rfl
theorem dok_one {t b : Int} (h : Nat.gcd t.natAbs b.natAbs = 1) : Dok t b := by
  have e := gc_one h
  have c : ∀ z : Int, CDivX z (gc t b) := fun z => by
    rw [e]
    exact ⟨by decide, .inl (by decide +kernel)⟩
  exact ⟨c _, c _⟩
theorem dok_zero {b : Int} (n : b ≠ 0) : Dok 0 b := by
  have e : gc 0 b = (b.natAbs : Int) := by
    unfold gc
    rw [Int.natAbs_zero, Nat.gcd_zero_left]
  have n' : gc 0 b ≠ 0 := by omega
  refine ⟨⟨n', .inr ?_⟩, ⟨n', .inr ?_⟩⟩
  · rw [e]
    exact Nat.le_trans (Nat.le_of_eq (by decide +kernel : (0 : Int).natAbs.log2 = 0)) (Nat.zero_le _)
  · rw [e, Int.natAbs_natCast]
    exact Nat.le_add_right _ _
theorem dok_same {t : Int} (n : t ≠ 0) : Dok t t := by
  have e : gc t t = (t.natAbs : Int) := by
    unfold gc
    rw [Nat.gcd_self]
  have n' : gc t t ≠ 0 := by omega
  have c : CDivX t (gc t t) := ⟨n', .inr (by rw [e, Int.natAbs_natCast]; exact Nat.le_add_right _ _)⟩
  exact ⟨c, c⟩
/-- __init__ -/
def S_ginit (C Z : Addr) : SpecD := fun ds m K E => ∃ x m0 t b, ds = [.ref x, .int t, .int b] ∧ m = (x, .ins C [] []) :: m0 ∧
  ((b = 0 ∧ E ⟨Z, [], []⟩ m) ∨ (b ≠ 0 ∧ Dok t b ∧ K .non ((x, .ins C ["top", "bottom"] [.int (rT t b), .int (rB t b)]) :: m0)))
structure RatG (t b : Int) (K : Prop) : Prop where
  nz : b ≠ 0
  ok : Dok t b
  k : K
abbrev Sz (x : Rat) : Prop := Qb 1000000 x
def qabs (x : Rat) : Rat := dv (x.num.natAbs : Int) x.den
section
variable {W : WX} {E : ET} {ta : TA} {r : Rho} {m : Mu} {K : KT} {C Z : Addr}
theorem we_ratG (h : Wa W E ta r m fun ds m1 => ∃ p q, ds = [.int p, .int q] ∧ RatG p q (K (rq C (dv p q)) m1)) : We W E (tMk C 3 (S_ginit C Z) [] W ta) r m K :=
  we_mk0 (h.imp fun ds m1 ⟨p, q, e, h0, ok, k⟩ => by
    subst e
    exact ⟨rfl, fun x _ => ⟨x, m1, p, q, rfl, rfl, .inr ⟨h0, ok, _, _, rfl, rfl, by rw [(rT_dv h0).1, (rT_dv h0).2]; exact k⟩⟩⟩)
theorem we_ratZ (h : Wa W E ta r m fun ds m1 => ∃ p, ds = [.int p, .int 0] ∧ E ⟨Z, [], []⟩ r m1) : We W E (tMk C 3 (S_ginit C Z) [] W ta) r m K :=
  we_mk0 (h.imp fun ds m1 ⟨p, e, k⟩ => by
    subst e
    exact ⟨rfl, fun x _ => ⟨x, m1, p, 0, rfl, rfl, .inl ⟨rfl, _, rfl, k⟩⟩⟩)
theorem we_ratG1 (h : Wa W E ta r m fun ds m1 => ∃ p, ds = [.int p] ∧ K (rq C (p : Rat)) m1) : We W E (tMk C 3 (S_ginit C Z) [.int 1] W ta) r m K :=
  we_mk1 rfl (h.imp fun ds m1 ⟨p, e, k⟩ => by
    subst e
    have e1 : rT p 1 = p := (rat_low (by decide) (Nat.gcd_one_right _)).1
    have e2 : rB p 1 = 1 := (rat_low (t := p) (by decide) (Nat.gcd_one_right _)).2
    exact ⟨rfl, fun x _ => ⟨x, m1, p, 1, rfl, rfl, .inr ⟨by decide, dok_one (Nat.gcd_one_right _), _, _, rfl, rfl, by rw [e1, e2]; exact k⟩⟩⟩)
def S_gadd (C : Addr) : SpecD := fun ds m K _ => ∃ x y, ds = [rq C x, rq C y] ∧ Sz x ∧ Sz y ∧ Dok (x.num * y.den + y.num * x.den) (x.den * y.den) ∧ K (rq C (x + y)) m
def S_gsub (C : Addr) : SpecD := fun ds m K _ => ∃ x y, ds = [rq C x, rq C y] ∧ Sz x ∧ Sz y ∧ Dok (x.num * y.den - y.num * x.den) (x.den * y.den) ∧ K (rq C (x - y)) m
def S_gmul (C : Addr) : SpecD := fun ds m K _ => ∃ x y, ds = [rq C x, rq C y] ∧ Sz x ∧ Sz y ∧ Dok (x.num * y.num) (x.den * y.den) ∧ K (rq C (x * y)) m
def S_gdiv (C Z : Addr) : SpecD := fun ds m K E => ∃ x y, ds = [rq C x, rq C y] ∧ Sz x ∧ Sz y ∧ ((y = 0 ∧ E ⟨Z, [], []⟩ m) ∨ (y ≠ 0 ∧ Dok (x.num * y.den) (x.den * y.num) ∧ K (rq C (x / y)) m))
def S_gneg (C : Addr) : SpecD := fun ds m K _ => ∃ x, ds = [rq C x] ∧ K (rq C (-x)) m
def S_gabs (C : Addr) : SpecD := fun ds m K _ => ∃ x, ds = [rq C x] ∧ K (rq C (qabs x)) m
def S_graised (C Z : Addr) : SpecD := fun ds m K E => ∃ x n, ds = [rq C x, .int n] ∧ Qb 15000 x ∧ ((¬ (0 ≤ n ∧ n ≤ 64) ∧ E ⟨Z, ["value"], [.int n]⟩ m) ∨ (0 ≤ n ∧ n ≤ 64 ∧ K (rq C (x ^ n.toNat)) m))
def S_gcmp (C : Addr) : SpecD := fun ds m K _ => ∃ x y, ds = [rq C x, rq C y] ∧ Sz x ∧ Sz y ∧ K (.int (cq x y)) m
def S_gsign (C : Addr) : SpecD := fun ds m K _ => ∃ x, ds = [rq C x] ∧ K (.int (cq x 0)) m
def S_gdown (C : Addr) : SpecD := fun ds m K _ => ∃ x, ds = [rq C x] ∧ CDivX x.num x.den ∧ K (.int (x.num / x.den)) m
def S_gup (C : Addr) : SpecD := fun ds m K _ => ∃ x, ds = [rq C x] ∧ CDivX (-x.num) x.den ∧ K (.int (-(-x.num / x.den))) m
variable {F : Ex → Mu → Prop} {x y : Rat} {n : Int}
theorem use_gadd (h : Sz x) (k : Sz y) (d : Dok (x.num * y.den + y.num * x.den) (x.den * y.den)) (q : K (rq C (x + y)) m) : S_gadd C [rq C x, rq C y] m K F := ⟨x, y, rfl, h, k, d, q⟩
theorem use_gsub (h : Sz x) (k : Sz y) (d : Dok (x.num * y.den - y.num * x.den) (x.den * y.den)) (q : K (rq C (x - y)) m) : S_gsub C [rq C x, rq C y] m K F := ⟨x, y, rfl, h, k, d, q⟩
theorem use_gmul (h : Sz x) (k : Sz y) (d : Dok (x.num * y.num) (x.den * y.den)) (q : K (rq C (x * y)) m) : S_gmul C [rq C x, rq C y] m K F := ⟨x, y, rfl, h, k, d, q⟩
theorem use_gdiv (h : Sz x) (k : Sz y) (n : y ≠ 0) (d : Dok (x.num * y.den) (x.den * y.num)) (q : K (rq C (x / y)) m) : S_gdiv C Z [rq C x, rq C y] m K F := ⟨x, y, rfl, h, k, .inr ⟨n, d, q⟩⟩
theorem use_gdivZ (h : Sz x) (k : Sz y) (n : y = 0) (q : F ⟨Z, [], []⟩ m) : S_gdiv C Z [rq C x, rq C y] m K F := ⟨x, y, rfl, h, k, .inl ⟨n, q⟩⟩
theorem use_gneg (q : K (rq C (-x)) m) : S_gneg C [rq C x] m K F := ⟨x, rfl, q⟩
theorem use_gabs (q : K (rq C (qabs x)) m) : S_gabs C [rq C x] m K F := ⟨x, rfl, q⟩
theorem use_graised (h : Qb 15000 x) (h0 : 0 ≤ n) (h1 : n ≤ 64) (q : K (rq C (x ^ n.toNat)) m) : S_graised C Z [rq C x, .int n] m K F := ⟨x, n, rfl, h, .inr ⟨h0, h1, q⟩⟩
theorem use_graisedZ (h : Qb 15000 x) (z : ¬ (0 ≤ n ∧ n ≤ 64)) (q : F ⟨Z, ["value"], [.int n]⟩ m) : S_graised C Z [rq C x, .int n] m K F := ⟨x, n, rfl, h, .inl ⟨z, q⟩⟩
theorem use_gcmp (h : Sz x) (k : Sz y) (q : K (.int (cq x y)) m) : S_gcmp C [rq C x, rq C y] m K F := ⟨x, y, rfl, h, k, q⟩
theorem use_gsign (q : K (.int (cq x 0)) m) : S_gsign C [rq C x] m K F := ⟨x, rfl, q⟩
theorem use_gdown (h : CDivX x.num x.den) (q : K (.int (x.num / x.den)) m) : S_gdown C [rq C x] m K F := ⟨x, rfl, h, q⟩
theorem use_gup (h : CDivX (-x.num) x.den) (q : K (.int (-(-x.num / x.den))) m) : S_gup C [rq C x] m K F := ⟨x, rfl, h, q⟩
end
theorem cop_pow {a b : Nat} (h : Nat.gcd a b = 1) (n : Nat) : Nat.gcd (a ^ n) (b ^ n) = 1 := Nat.Coprime.pow n n h
end DL
set_option Elab.async false
set_option linter.all false
set_option maxRecDepth 100000
set_option maxHeartbeats 1000000
/-! DLZ: zip of any two of lists and tuples. -/
namespace DL
open PySem PySem.Spec L2
open PyProof.Rows hiding St

/-- what is gone over: a tuple (true) or a list -/
def SIt (k : Bool) (h : Heap) (i l : Addr) (n : Nat) : Prop := match k with
  | true => h.IsTupleIter i l n
  | false => h.IsListIter i l n
def SSq (k : Bool) (h : Heap) (l : Addr) (xs : Array Value) : Prop := match k with
  | true => h.IsTuple l xs
  | false => h.IsList l xs
theorem SIt.ext {k : Bool} {h h' : Heap} {i l c : Addr} {n : Nat} (x : SIt k h i l n) (e : Heap.ExtBut c h h') (ne : i ≠ c) : SIt k h' i l n := match k, x with
  | true, x => Heap.IsTupleIter.extBut x e ne
  | false, x => Heap.IsListIter.extBut x e ne
theorem SIt.obj {k : Bool} {h : Heap} {i l : Addr} {n : Nat} (x : SIt k h i l n) : ∃ o, h.get? i = some o ∧ ∀ v, o.data ≠ .cell v := match k, x with
  | true, x => by
    obtain ⟨o, e, _, d⟩ := x
    exact ⟨o, e, fun v q => by rw [d] at q; cases q⟩
  | false, x => by
    obtain ⟨o, e, _, d⟩ := x
    exact ⟨o, e, fun v q => by rw [d] at q; cases q⟩
theorem SIt.at {k : Bool} {h h' : Heap} {i l : Addr} {n : Nat} (x : SIt k h i l n) (e : ∀ o, h.get? i = some o → h'.get? i = some o) : SIt k h' i l n := match k, x with
  | true, x => Heap.IsTupleIter.at x e
  | false, x => Heap.IsListIter.at x e
theorem SSq.ext {k : Bool} {h h' : Heap} {l c : Addr} {xs : Array Value} (x : SSq k h l xs) (e : Heap.ExtBut c h h') (ne : l ≠ c) : SSq k h' l xs := match k, x with
  | true, x => Heap.IsTuple.extBut x e ne
  | false, x => Heap.IsList.extBut x e ne
theorem SSq.push {k : Bool} {h : Heap} {l : Addr} {xs : Array Value} (x : SSq k h l xs) (o : Obj) : SSq k (h.push o) l xs := match k, x with
  | true, x => Heap.IsTuple.push x o
  | false, x => Heap.IsList.push x o
theorem SSq.lt {k : Bool} {h : Heap} {l : Addr} {xs : Array Value} (x : SSq k h l xs) : l < h.objs.size := match k, x with
  | true, x => by
    obtain ⟨o, e, _⟩ := x
    exact Heap.lt_size e
  | false, x => by
    obtain ⟨o, e, _⟩ := x
    exact Heap.lt_size e
/-- the new iterator over it -/
def itO (k : Bool) (l : Addr) : Obj := { cls := .type (match k with | true => "tuple_iterator" | false => "list_iterator"), data := .fields #[.ref l, .int 0 0] }
theorem SIt.of {k : Bool} {h : Heap} {i l : Addr} (e : h.get? i = some (itO k l)) : SIt k h i l 0 := match k, e with
  | true, e => ⟨_, e, rfl, rfl⟩
  | false, e => ⟨_, e, rfl, rfl⟩
section
variable {prog : Program} {w : World} {A : Around} {E : Value → Shared → Prop} {s : Shared} {k kb : Bool}
theorem nextS_item {it l : Addr} {i : Nat} {items : Array Value} {x : Value} {Q : Value → Shared → Prop} (hit : SIt k s.heap it l i) (hl : SSq k s.heap l items) (hx : items[i]? = some x)
    (hQ : ∀ h', SIt k h' it l (i + 1) → Heap.SameBut it s.heap h' → Q x { s with heap := h' }) : wpAny (model prog w) A (Builtin.SmallTypes.nextOf (.ref it)) Q E s := by
  cases k with
  | true => exact RZ.nextOf_tuple_item hit hl hx hQ
  | false => exact wpAny_nextOf_list_item hit hl hx hQ
theorem nextS_end {it l : Addr} {i : Nat} {items : Array Value} {Q : Value → Shared → Prop} (hh : A.handled = none) (hit : SIt k s.heap it l i) (hl : SSq k s.heap l items) (hx : items[i]? = none)
    (hE : ∀ h' e, Heap.ExtBut it s.heap h' → (∃ o, h'.get? e = some o ∧ o.cls = .type "StopIteration") → E (.ref e) { s with heap := h' }) : wpAny (model prog w) A (Builtin.SmallTypes.nextOf (.ref it)) Q E s := by
  cases k with
  | true => exact RZ.nextOf_tuple_end hh hit hl hx hE
  | false => exact wpAny_nextOf_list_end hh hit hl hx hE
theorem pyIterS {l : Addr} {items : Array Value} {Q : Value → Shared → Prop} (hl : SSq k s.heap l items) (hQ : Q (.ref s.heap.objs.size) { s with heap := s.heap.push (itO k l) }) : wpAny (model prog w) A (pyIter (.ref l)) Q E s := by
  cases k with
  | true => exact wpAny_pyIter_tuple hl hQ
  | false => exact wpAny_pyIter_list hl hQ

/-- one turn of zip: a pair, or the end of one of the two -/
theorem zipS_next {z TI TO i1 i2 l1 l2 : Addr} {n1 n2 : Nat} {xs ys : Array Value} {a b : Value} {Q : Value → Shared → Prop} (hh : A.handled = none) (D : ZipApart z TI TO i1 i2 l1 l2)
    (hz : IsZip s.heap z TI TO .none) (hTI : IsPair s.heap TI (.ref i1) (.ref i2)) (hTO : IsPair s.heap TO a b)
    (h1 : SIt k s.heap i1 l1 n1) (h2 : SIt kb s.heap i2 l2 n2) (hl1 : SSq k s.heap l1 xs) (hl2 : SSq kb s.heap l2 ys)
    (hQ : ∀ x y h', xs[n1]? = some x → ys[n2]? = some y → IsZip h' z TI TO (rawInt s.heap.objs.size) → IsPair h' TO x y → SIt k h' i1 l1 (n1 + 1) → SIt kb h' i2 l2 (n2 + 1) → IsPair h' s.heap.objs.size x y →
      (∀ c o, c ≠ z → c ≠ TO → c ≠ i1 → c ≠ i2 → s.heap.get? c = some o → h'.get? c = some o) → Q (.ref s.heap.objs.size) { s with heap := h' })
    (hE : xs[n1]? = none ∨ ys[n2]? = none → ∀ h' e, (∀ c o, c ≠ z → c ≠ TO → c ≠ i1 → c ≠ i2 → s.heap.get? c = some o → h'.get? c = some o) → (∃ o, h'.get? e = some o ∧ o.cls = .type "StopIteration") → E (.ref e) { s with heap := h' }) :
    wpAny (model prog w) A (Builtin.«zip.__next__» ⟨[.ref z], []⟩) (fun fin s' => ∃ v, fin = .done (.ret v) ∧ Q v s') E s := by
  show wpAny _ _ (field (.ref z) 2 >>= _) _ _ _
  refine wpAny_bind (wpAny_field hz rfl (x := .bool false) rfl ?_)
  show wpAny _ _ (field (.ref z) 3 >>= _) _ _ _
  refine wpAny_bind (wpAny_field hz rfl (x := .ref TI) rfl (wpAny_bind (wpAny_seqItems hTI rfl ?_)))
  show wpAny _ _ (Builtin.SmallTypes.ownedTupleIsFree (.ref z) >>= _) _ _ _
  refine wpAny_bind ?_
  unfold Builtin.SmallTypes.ownedTupleIsFree
  refine wpAny_bind (wpAny_field hz rfl (x := .none) rfl (wpAny_pure ?_))
  simp only [if_true]
  refine wpAny_bind (wpAny_rule (wpAny_bind (wpAny_field hz rfl (x := .ref TO) rfl (wpAny_bind (wpAny_setField_rec hz (by simp) fun ha za sa => ?_)))))
  replace za : IsZip ha z TI TO .ellipsis := za
  have ea := sa.extBut
  -- z is open at the loop: what a raise does
  have out : ∀ (h' : Heap) (e : Addr), IsZip h' z TI TO .ellipsis → (∀ c o, c ≠ z → c ≠ TO → c ≠ i1 → c ≠ i2 → s.heap.get? c = some o → h'.get? c = some o) → (∃ o, h'.get? e = some o ∧ o.cls = .type "StopIteration") → (xs[n1]? = none ∨ ys[n2]? = none) →
      ∀ {Q' : Unit → Shared → Prop}, (∀ h'', (∃ o, h''.get? e = some o ∧ o.cls = .type "StopIteration") → (∀ c o, c ≠ z → c ≠ TO → c ≠ i1 → c ≠ i2 → s.heap.get? c = some o → h''.get? c = some o) → Q' () { s with heap := h'' }) → wpAny (model prog w) A (setField (.ref z) 0 .none) Q' E { s with heap := h' } := fun h' e zz kk he hn Q' g => by
    obtain ⟨oe, hoe, hce⟩ := he
    have ne : e ≠ z := fun q => by
      subst q
      rw [zz] at hoe
      cases hoe
      simp at hce
    exact wpAny_setField_rec zz (by simp) fun h'' _ s2 => g h'' ⟨oe, s2.extBut _ _ ne hoe, hce⟩ fun c o c1 c2 c3 c4 x => s2.extBut _ _ c1 (kk c o c1 c2 c3 c4 x)
  refine wpAny_bind ?_
  simp only [List.zipIdx_cons, List.zipIdx_nil, List.forIn_cons, List.forIn_nil]
  refine wpAny_bind (wpAny_bind (wpAny_onRaise ?_))
  show wpAny _ _ (Builtin.SmallTypes.nextOf (.ref i1) >>= _) _ _ _
  cases hx : xs[n1]? with
  | none =>
    refine wpAny_bind (nextS_end hh (h1.ext ea D.i1z) (hl1.ext ea D.l1z) hx fun hb e sb he => ?_)
    exact out hb e (sb _ _ D.i1z.symm za) (fun c o c1 c2 c3 c4 x => sb _ _ c3 (ea _ _ c1 x)) he (.inl hx) fun h'' a b => hE (.inl hx) h'' e b a
  | some x =>
    refine wpAny_bind (nextS_item (h1.ext ea D.i1z) (hl1.ext ea D.l1z) hx fun hb ib sb => wpAny_pure ?_)
    have eb := sb.extBut
    have tb : IsPair hb TO a b := eb _ _ D.TOi1 (ea _ _ D.TOz hTO)
    refine wpAny_bind (wpAny_seqItems tb rfl (wpAny_bind (wpAny_updateSeq_pair tb fun hc tc sc => ?_)))
    replace tc : IsPair hc TO x b := tc
    have ec := sc.extBut
    refine wpAny_bind (wpAny_letGo (wpAny_pure (wpAny_bind (wpAny_bind (wpAny_onRaise ?_)))))
    show wpAny _ _ (Builtin.SmallTypes.nextOf (.ref i2) >>= _) _ _ _
    have i2c := ((h2.ext ea D.i2z).ext eb D.i12.symm).ext ec D.TOi2.symm
    have l2c := ((hl2.ext ea D.l2z).ext eb D.l2i1).ext ec D.l2TO
    cases hy : ys[n2]? with
    | none =>
      refine wpAny_bind (nextS_end hh i2c l2c hy fun hd e sd he => ?_)
      exact out hd e (sd _ _ D.i2z.symm (ec _ _ D.TOz.symm (eb _ _ D.i1z.symm za))) (fun c o c1 c2 c3 c4 x => sd _ _ c4 (ec _ _ c2 (eb _ _ c3 (ea _ _ c1 x)))) he (.inr hy) fun h'' a b => hE (.inr hy) h'' e b a
    | some y =>
      refine wpAny_bind (nextS_item i2c l2c hy fun hd id sd => wpAny_pure ?_)
      have ed := sd.extBut
      have td : IsPair hd TO x b := ed _ _ D.TOi2 tc
      refine wpAny_bind (wpAny_seqItems td rfl (wpAny_bind (wpAny_updateSeq_pair td fun he te se => ?_)))
      replace te : IsPair he TO x y := te
      have ee := se.extBut
      refine wpAny_bind (wpAny_letGo (wpAny_pure (wpAny_pure (wpAny_bind (wpAny_seqItems te rfl (wpAny_bind (wpAny_newTuple ?_)))))))
      have hsz : he.objs.size = s.heap.objs.size := by rw [se.1, sd.1, sc.1, sb.1, sa.1]
      have ze : IsZip he z TI TO .ellipsis := ee _ _ D.TOz.symm (ed _ _ D.i2z.symm (ec _ _ D.TOz.symm (eb _ _ D.i1z.symm za)))
      have i1e := (((ib.ext ec D.TOi1.symm).ext ed D.i12).ext ee D.TOi1.symm)
      have i2e := id.ext ee D.TOi2.symm
      have zl : z ≠ he.objs.size := Nat.ne_of_lt (Heap.lt_size ze)
      show wpAny _ _ (Builtin.SmallTypes.ownedTupleHandOut (.ref z) (.ref he.objs.size) >>= _) _ _ _
      refine wpAny_bind ?_
      unfold Builtin.SmallTypes.ownedTupleHandOut
      have zf : IsZip (he.push { cls := .type "tuple", data := .seq #[x, y] }) z TI TO .ellipsis := Heap.get?_push_of_some _ ze
      refine wpAny_bind (wpAny_setField_rec zf (by simp) fun hg zg sg => ?_)
      replace zg : IsZip hg z TI TO (rawInt he.objs.size) := zg
      refine wpAny_setField_rec zg (by simp) fun hi zi si => ?_
      replace zi : IsZip hi z TI TO (rawInt he.objs.size) := zi
      have up : ∀ c o, c ≠ z → he.get? c = some o → hi.get? c = some o := fun c o c1 q => si.extBut _ _ c1 (sg.extBut _ _ c1 (Heap.get?_push_of_some _ q))
      have pT : IsPair hi he.objs.size x y := si.extBut _ _ zl.symm (sg.extBut _ _ zl.symm (Heap.get?_push_size _ rfl))
      refine wpAny_pure ⟨_, rfl, ?_⟩
      show Q (.ref he.objs.size) _
      rw [hsz] at zi pT ⊢
      exact hQ x y hi hx hy zi (up _ _ D.TOz te) (i1e.at fun o q => up _ o D.i1z q) (i2e.at fun o q => up _ o D.i2z q) pT fun c o c1 c2 c3 c4 q => up c o c1 (ee _ _ c2 (ed _ _ c4 (ec _ _ c2 (eb _ _ c3 (ea _ _ c1 q)))))
theorem pyNext_zipS {z TI TO i1 i2 l1 l2 : Addr} {n1 n2 : Nat} {xs ys : Array Value} {a b : Value} {Q : Option Value → Shared → Prop} (hh : A.handled = none) (D : ZipApart z TI TO i1 i2 l1 l2)
    (hz : IsZip s.heap z TI TO .none) (hTI : IsPair s.heap TI (.ref i1) (.ref i2)) (hTO : IsPair s.heap TO a b)
    (h1 : SIt k s.heap i1 l1 n1) (h2 : SIt kb s.heap i2 l2 n2) (hl1 : SSq k s.heap l1 xs) (hl2 : SSq kb s.heap l2 ys)
    (hQ : ∀ x y h', xs[n1]? = some x → ys[n2]? = some y → IsZip h' z TI TO (rawInt s.heap.objs.size) → IsPair h' TO x y → SIt k h' i1 l1 (n1 + 1) → SIt kb h' i2 l2 (n2 + 1) → IsPair h' s.heap.objs.size x y →
      (∀ c o, c ≠ z → c ≠ TO → c ≠ i1 → c ≠ i2 → s.heap.get? c = some o → h'.get? c = some o) → Q (some (.ref s.heap.objs.size)) { s with heap := h' })
    (hN : xs[n1]? = none ∨ ys[n2]? = none → ∀ h', (∀ c o, c ≠ z → c ≠ TO → c ≠ i1 → c ≠ i2 → s.heap.get? c = some o → h'.get? c = some o) → Q none { s with heap := h' }) :
    wpAny (model prog w) A (pyNext (.ref z)) Q E s := by
  have hT : s.TypeIs (.ref z) "zip" := ⟨_, hz, rfl⟩
  unfold pyNext
  refine wpAny_bind (wpAny_attempt (wpAny_callSpecial?_slot (name := Str.ofString "__next__") hT F.slot_zip_next (wpAny_call_entry F.slot_zip_next hT F.entry_zip_next
    (zipS_next hh D hz hTI hTO h1 h2 hl1 hl2 (fun x y h' a1 a2 a3 a4 a5 a6 a7 a8 => wpAny_pure (hQ x y h' a1 a2 a3 a4 a5 a6 a7 a8)) (fun hn h' e hk he => ?_)) (F.args_zip_next_1 _))))
  obtain ⟨o, ho, hc⟩ := he
  exact wpAny_bind (wpAny_isInstance (T := "StopIteration") (b := true) ⟨o, ho, hc⟩ isSubtype_stop (wpAny_pure (hN hn _ hk)))
end
/-! ### zip(a, b) is made -/
abbrev zS1 (h : Heap) (k : Bool) (l1 : Addr) : Heap := h.push (itO k l1)
abbrev zS2 (h : Heap) (k kb : Bool) (l1 l2 : Addr) : Heap := (zS1 h k l1).push (itO kb l2)
abbrev zS3 (h : Heap) (k kb : Bool) (l1 l2 : Addr) : Heap := (zS2 h k kb l1 l2).push { cls := .type "tuple", data := .seq #[.ref h.objs.size, .ref (zS1 h k l1).objs.size] }
abbrev zS4 (h : Heap) (k kb : Bool) (l1 l2 : Addr) : Heap := (zS3 h k kb l1 l2).push { cls := .type "tuple", data := .seq #[.none, .none] }
abbrev zS5 (h : Heap) (k kb : Bool) (l1 l2 : Addr) : Heap := (zS4 h k kb l1 l2).push { cls := .type "zip", data := .fields #[.none, .bool false, .bool false, .ref (zS2 h k kb l1 l2).objs.size, .ref (zS3 h k kb l1 l2).objs.size] }
theorem meets_zipS (k kb : Bool) (l1 l2 : Addr) (xs ys : Array Value) :
    Meets (Builtin.«zip.__new__» ⟨[.type "zip", .ref l1, .ref l2], []⟩) (fun _ R s => SSq k s.heap l1 xs ∧ SSq kb s.heap l2 ys ∧ R (.ok (.ret (.ref (zS4 s.heap k kb l1 l2).objs.size))) { s with heap := zS5 s.heap k kb l1 l2 }) :=
  .of_wp fun prog w A R s h => by
    obtain ⟨hp, g, d, tk, os⟩ := s
    obtain ⟨hl1, hl2, h⟩ := h
    have hsub := sub_zip
    have a1 : SSq k (Shared.heap ⟨hp, g, d, tk, os⟩) l1 xs := hl1
    have a2 : SSq kb (Shared.heap ⟨hp.push (itO k l1), g, d, tk, os⟩) l2 ys := SSq.push hl2 _
    wp_walk using pyIterS a1, pyIterS a2
    exact ⟨_, rfl, h⟩
section
variable {prog : Program} {w : World} {A : Around} {E : Value → Shared → Prop} {s : Shared} {k kb : Bool}
theorem call_zipS {l1 l2 : Addr} {xs ys : Array Value} {Q : Value → Shared → Prop} (hl1 : SSq k s.heap l1 xs) (hl2 : SSq kb s.heap l2 ys)
    (h : ∀ h', IsZip h' (s.heap.objs.size + 4) (s.heap.objs.size + 2) (s.heap.objs.size + 3) .none → IsPair h' (s.heap.objs.size + 2) (.ref s.heap.objs.size) (.ref (s.heap.objs.size + 1)) →
      IsPair h' (s.heap.objs.size + 3) .none .none → SIt k h' s.heap.objs.size l1 0 → SIt kb h' (s.heap.objs.size + 1) l2 0 → (∀ c o, s.heap.get? c = some o → h'.get? c = some o) → Q (.ref (s.heap.objs.size + 4)) { s with heap := h' }) :
    wpAny (model prog w) A (call (.type "zip") [.ref l1, .ref l2]) Q E s := by
  refine callType_new F.called_zip (by decide) (F.typeCall_zip_2 _ _) (F.newCall_zip_2 _ _) (fun obj => F.args_object_init_3 obj _ _) F.entry_zip_new (meets_zipS k kb l1 l2 xs ys) ⟨hl1, hl2, ?_⟩
  have z1 : (zS1 s.heap k l1).objs.size = s.heap.objs.size + 1 := Heap.size_push ..
  have z2 : (zS2 s.heap k kb l1 l2).objs.size = s.heap.objs.size + 2 := by rw [Heap.size_push, z1]
  have z3 : (zS3 s.heap k kb l1 l2).objs.size = s.heap.objs.size + 3 := by rw [Heap.size_push, z2]
  have z4 : (zS4 s.heap k kb l1 l2).objs.size = s.heap.objs.size + 4 := by rw [Heap.size_push, z3]
  have g5 : (zS5 s.heap k kb l1 l2).get? (zS4 s.heap k kb l1 l2).objs.size = some _ := Heap.get?_push_size _ rfl
  have g4 : (zS5 s.heap k kb l1 l2).get? (zS3 s.heap k kb l1 l2).objs.size = some _ := Heap.get?_push_of_some _ (Heap.get?_push_size _ rfl)
  have g3 : (zS5 s.heap k kb l1 l2).get? (zS2 s.heap k kb l1 l2).objs.size = some _ := Heap.get?_push_of_some _ (Heap.get?_push_of_some _ (Heap.get?_push_size _ rfl))
  have n2 : ∀ (kk : Bool) (l : Addr), (itO kk l).isFreed = false := fun kk l => by cases kk <;> rfl
  have g2 : (zS5 s.heap k kb l1 l2).get? (zS1 s.heap k l1).objs.size = some (itO kb l2) := Heap.get?_push_of_some _ (Heap.get?_push_of_some _ (Heap.get?_push_of_some _ (Heap.get?_push_size _ (n2 _ _))))
  have g1 : (zS5 s.heap k kb l1 l2).get? s.heap.objs.size = some (itO k l1) := Heap.get?_push_of_some _ (Heap.get?_push_of_some _ (Heap.get?_push_of_some _ (Heap.get?_push_of_some _ (Heap.get?_push_size _ (n2 _ _)))))
  show _ ∧ _
  rw [z2, z3, z4] at g5
  rw [z1, z2] at g3
  rw [z3] at g4
  rw [z1] at g2
  rw [z4]
  exact ⟨⟨_, g5, rfl⟩, h _ g5 g3 g4 (.of g1) (.of g2) fun c o x =>
    Heap.get?_push_of_some _ (Heap.get?_push_of_some _ (Heap.get?_push_of_some _ (Heap.get?_push_of_some _ (Heap.get?_push_of_some _ x))))⟩
end
end DL
set_option Elab.async false
set_option linter.all false
set_option maxRecDepth 100000
/-! DL21: iterators over trees; comprehensions and loops over any of them. -/
namespace DL
open PySem PySem.Spec L2
open PyProof.Rows hiding St

/-! ### zip at the hand layer -/
def SqS (k : Bool) (K : PySem.W.Frag) (H : Hp) (a : Addr) (xs : List V) : Prop := match k with
  | true => SqT K H a xs
  | false => SqL K H a xs
section
variable {X : Cx} {pins : List (Addr × Obj)} {σ : L2.St} {H : Hp} {s : Shared} {k : Bool} {a : Addr} {xs ys : List V}
theorem inv_seqS (I : Inv X pins σ H s) (h : SqS k X.K H a xs) : ∃ its : List Value, Vals xs its ∧ SSq k s.heap a its.toArray := by
  cases k with
  | true =>
    obtain ⟨its, r, p, _⟩ := I.tuple h
    exact ⟨its, r, p⟩
  | false =>
    obtain ⟨its, r, p, _⟩ := I.list h
    exact ⟨its, r, p.isList⟩
theorem inv_seqS_inj (I : Inv X pins σ H s) (h : SqS k X.K H a xs) (h' : SqS k X.K H a ys) : xs = ys := by
  cases k with
  | true => exact I.tuple_inj h h'
  | false => exact I.list_inj h h'
end
def ItzS (K : PySem.W.Frag) (k kb : Bool) (a b : Addr) : It :=
  ⟨fun i H => ∃ (xs ys : List V) (x y : V), SqS k K H a xs ∧ SqS kb K H b ys ∧ xs[i]? = some x ∧ ys[i]? = some y,
    fun i H v H' => ∃ T x y, v = .ref T ∧ H T = none ∧ H' = upd H T (.tup [x, y]) ∧ (∀ xs, SqS k K H a xs → xs[i]? = some x) ∧ ∀ ys, SqS kb K H b ys → ys[i]? = some y,
    fun i H => ∃ xs ys : List V, SqS k K H a xs ∧ SqS kb K H b ys ∧ (xs.length ≤ i ∨ ys.length ≤ i)⟩
theorem turn_zipS {P : Program} {w : World} {K : PySem.W.Frag} {elts : List Expr} {kk : Nat} {tpos : Pos} {k kb : Bool} {a b z TI TO i1 i2 : Addr} (D : ZipApart z TI TO i1 i2 a b) :
    Turn P w K (.Tuple elts kk tpos) (ItzS K k kb a b) [z, TI, TO, i1, i2] z (fun i h => IsZip h z TI TO .none ∧ IsPair h TI (.ref i1) (.ref i2) ∧ (∃ x y, IsPair h TO x y) ∧ SIt k h i1 a i ∧ SIt kb h i2 b i) where
  mem := by simp
  obj := fun i h st c hc => by
    obtain ⟨hz, hTI, ⟨x, y, hTO⟩, h1, h2⟩ := st
    simp only [List.mem_cons, List.not_mem_nil, or_false] at hc
    rcases hc with rfl | rfl | rfl | rfl | rfl
    · exact ⟨_, hz, fun v q => nomatch q⟩
    · exact ⟨_, hTI, fun v q => nomatch q⟩
    · exact ⟨_, hTO, fun v q => nomatch q⟩
    · exact h1.obj
    · exact h2.obj
  keep := fun i h h' st kp => by
    obtain ⟨hz, hTI, ⟨x, y, hTO⟩, h1, h2⟩ := st
    exact ⟨kp z (by simp) _ hz, kp TI (by simp) _ hTI, ⟨x, y, kp TO (by simp) _ hTO⟩, h1.at fun o q => kp i1 (by simp) o q, h2.at fun o q => kp i2 (by simp) o q⟩
  item := by
    intro X hP hw hK hc i pins s σ H E I hf st hg
    subst hP hw hK
    obtain ⟨hz, hTI, ⟨x0, y0, hTO⟩, h1, h2⟩ := st
    obtain ⟨xs, ys, x, y, qx, qy, hx, hy⟩ := hg
    obtain ⟨its, rv, p⟩ := inv_seqS I qx
    obtain ⟨its2, rv2, p2⟩ := inv_seqS I qy
    obtain ⟨u, hu, ru⟩ := rv.get hx
    obtain ⟨u2, hu2, ru2⟩ := rv2.get hy
    have hzl : z < s.heap.objs.size := Heap.lt_size hz
    refine pyNext_zipS (I.ok.hd hc) D hz hTI hTO h1 h2 p p2 (fun u' u2' h' e1 e2 z' TO' h1' h2' hT hk => ?_) (fun q => ?_)
    · have e1' : some u = some u' := hu.symm.trans (by simpa using e1)
      have e2' : some u2 = some u2' := hu2.symm.trans (by simpa using e2)
      cases e1'
      cases e2'
      refine ⟨_, rfl, wpAny_letOwnedTupleGo_zip (s := { s with heap := h' }) z' fun h'' z'' sb => ?_⟩
      have hT2 : h''.get? s.heap.objs.size = some { cls := .type "tuple", data := .seq #[u, u2] } := (sb.2 _ (Nat.ne_of_gt hzl)).trans hT
      have new : ObjOk X.prog X.w (upd H s.heap.objs.size (.tup [x, y])) h'' s.heap.objs.size (.tup [x, y]) := ⟨by show 2 ≤ sizeLine; decide, [u, u2], .cons ru (.cons ru2 .nil), ⟨_, hT2, rfl, _, rfl⟩⟩
      have kp : ∀ c o, c ∉ [z, TI, TO, i1, i2] → s.heap.get? c = some o → h''.get? c = some o := fun c o hb q => by
        simp only [List.mem_cons, List.not_mem_nil, or_false, not_or] at hb
        exact (sb.2 c hb.1).trans (hk c o hb.1 hb.2.2.1 hb.2.2.2.1 hb.2.2.2.2 q)
      have I1 : Inv X pins σ (upd H s.heap.objs.size (.tup [x, y])) { s with heap := h'' } := I.turnedNew (t' := s.toks) (ch := [z, TI, TO, i1, i2]) kp hf (Nat.le_refl _) new
      refine ⟨.ref s.heap.objs.size, _, I1, rfl, ⟨_, x, y, rfl, I.hok.fresh (Nat.le_refl _), rfl, fun l hl => by rw [inv_seqS_inj I hl qx]; exact hx, fun l hl => by rw [inv_seqS_inj I hl qy]; exact hy⟩, ⟨z'', (sb.2 _ D.TIz).trans (hk _ _ D.TIz D.TITO D.TIi1 D.TIi2 hTI), ⟨u, u2, (sb.2 _ D.TOz).trans TO'⟩, h1'.at fun o q => (sb.2 _ D.i1z).trans q, h2'.at fun o q => (sb.2 _ D.i2z).trans q⟩, fun c hcm => ?_⟩
      have hlt : c < s.heap.objs.size := by
        simp only [List.mem_cons, List.not_mem_nil, or_false] at hcm
        rcases hcm with rfl | rfl | rfl | rfl | rfl
        · exact hzl
        · exact Heap.lt_size hTI
        · exact Heap.lt_size hTO
        · obtain ⟨_, e1, _⟩ := h1.obj
          exact Heap.lt_size e1
        · obtain ⟨_, e2, _⟩ := h2.obj
          exact Heap.lt_size e2
      rw [upd_ne (Nat.ne_of_lt hlt)]
      exact (hf c hcm).1
    · exfalso
      rcases q with q | q
      · rw [show its.toArray[i]? = some u by simpa using hu] at q
        cases q
      · rw [show its2.toArray[i]? = some u2 by simpa using hu2] at q
        cases q
  done := by
    intro X hP hw hK hc i pins s σ H E I hf st hg
    subst hP hw hK
    obtain ⟨hz, hTI, ⟨x0, y0, hTO⟩, h1, h2⟩ := st
    obtain ⟨xs, ys, qx, qy, hend⟩ := hg
    obtain ⟨its, rv, p⟩ := inv_seqS I qx
    obtain ⟨its2, rv2, p2⟩ := inv_seqS I qy
    have l1 := rv.length
    have l2 := rv2.length
    refine pyNext_zipS (I.ok.hd hc) D hz hTI hTO h1 h2 p p2 (fun u' u2' h' e1 e2 z' TO' h1' h2' hT hk => ?_) (fun q h' hk => ?_)
    · exfalso
      have e1' := (Array.getElem?_eq_some_iff.mp e1).1
      have e2' := (Array.getElem?_eq_some_iff.mp e2).1
      simp only [List.size_toArray] at e1' e2'
      omega
    · exact ⟨rfl, I.turnedL (t' := s.toks) (ch := [z, TI, TO, i1, i2]) (fun c o hb q => by
        simp only [List.mem_cons, List.not_mem_nil, or_false, not_or] at hb
        exact hk c o hb.1 hb.2.2.1 hb.2.2.2.1 hb.2.2.2.2 q) hf⟩
  self := fun A i s Q E st h => wpAny_pyIter_zip st.1 h
def iZipS (K : PySem.W.Frag) (ta : TA) : TI := fun σ H R => ta σ H fun vs H1 => ∃ (k kb : Bool) (a b : Addr) (xs ys : List V), vs = [.ref a, .ref b] ∧ SqS k K H1 a xs ∧ SqS kb K H1 b ys ∧ R (ItzS K k kb a b) H1
theorem pi_zipS {X : Cx} {e e2 : Expr} {ta : TA} {p pos tpos : Pos} {elts : List Expr} {kk : Nat} (hg : Gl X "zip") (hm : X.mg "zip" = none) (ha : PA X [e, e2] ta)
    (hs : starEach [e, e2] X.env = (false, eval e X.env) :: starEach [e2] X.env := by rfl) (hpl : (backTo pos (starEach [e2] X.env)).any (·.1) = false := by rfl) :
    PI X (.Tuple elts kk tpos) (.Call (.Name "zip" p) [e, e2] [] pos) (iZipS X.K ta) := by
  refine ⟨fun pins s σ H R I h => ?_⟩
  refine Call_ (ld_blt I hg hm PyProof.Rows.boot_zip (PyProof.Rows.callWith_type1 (thn (ha.run pos pins s σ H _ I h) fun us s1 ⟨vs, H1, I1, r1, q1⟩ => ?_) hs hpl))
  obtain ⟨k, kb, a, b, xs, ys, ex, qx, qy, q⟩ := q1
  subst ex
  cases r1 with
  | cons r rr =>
    cases rr with
    | cons r' rr =>
      cases rr
      cases r
      cases r'
      obtain ⟨its, rv, p1⟩ := inv_seqS I1 qx
      obtain ⟨its2, rv2, p2⟩ := inv_seqS I1 qy
      have fresh5 : ∀ c, c ∈ [s1.heap.objs.size + 4, s1.heap.objs.size + 2, s1.heap.objs.size + 3, s1.heap.objs.size, s1.heap.objs.size + 1] → FpOk X pins H1 c := fun c hcm => by
        have hle : s1.heap.objs.size ≤ c := by
          simp only [List.mem_cons, List.not_mem_nil, or_false] at hcm
          rcases hcm with z | z | z | z | z <;> (subst z; show s1.heap.objs.size ≤ _; first | exact Nat.le_refl _ | exact Nat.le_add_right _ _)
        exact I1.fpOk hle (I1.hok.fresh hle)
      refine call_zipS p1 p2 fun h' hz hTI hTO h1 h2 hk => wpAny_pyIter_zip hz ?_
      exact ⟨s1.heap.objs.size + 4, [s1.heap.objs.size + 4, s1.heap.objs.size + 2, s1.heap.objs.size + 3, s1.heap.objs.size, s1.heap.objs.size + 1], _, _, H1, rfl, I1.kept (t' := s1.toks) hk, turn_zipS (PySem.W.ktu_apart s1.heap.objs.size a b p1.lt p2.lt), ⟨hz, hTI, ⟨_, _, hTO⟩, h1, h2⟩, fresh5, q⟩

/-! ### iterators over trees -/
/-- what lies at ps lies there as it did -/
def Sub (ps : List Addr) (m m' : Mu) : Prop := ∀ p ∈ ps, ∀ o, At m p o → At m' p o
theorem Sub.nil {m m' : Mu} : Sub [] m m' := fun _ h => nomatch h
theorem Sub.refl {ps : List Addr} {m : Mu} : Sub ps m m := fun _ _ _ h => h
theorem Sub.trans {ps : List Addr} {m m1 m2 : Mu} (a : Sub ps m m1) (b : Sub ps m1 m2) : Sub ps m m2 := fun p hp o h => b p hp o (a p hp o h)
theorem Sub.cons {ps : List Addr} {m : Mu} {q : Addr × MO} : Sub ps m (q :: m) := fun _ _ _ h => .tail h
/-- it yields xs, one after the other, at any later heap -/
structure IsIt (J : It) (ps : List Addr) (m : Mu) (H : Hp) (xs : List D) : Prop where
  go : ∀ i m' H', Stp (dom m) H (dom m') H' → MutR m' H' → Sub ps m m' → i < xs.length → J.go i H'
  yld : ∀ i m' H', Stp (dom m) H (dom m') H' → MutR m' H' → Sub ps m m' → ∀ v H2, J.yld i H' v H2 → i < xs.length → ∃ d, xs[i]? = some d ∧ Stp (dom m') H' (dom m') H2 ∧ MutR m' H2 ∧ Rep (dom m') H2 d v
  stop : ∀ m' H', Stp (dom m) H (dom m') H' → MutR m' H' → Sub ps m m' → J.stop xs.length H'
/-- a sequence: its items, and where it lies if it is mutable -/
inductive SeqM : D → Mu → List Addr → List D → Prop
  | lst {m : Mu} {xs : List D} : SeqM (.lst xs) m [] xs
  | tup {m : Mu} {xs : List D} : SeqM (.tup xs) m [] xs
  | mutb {m : Mu} {p : Addr} {xs : List D} (h : At m p (.lst xs)) : SeqM (.ref p) m [p] xs
theorem SeqM.at {K : PySem.W.Frag} {d : D} {m : Mu} {ps : List Addr} {xs : List D} {H : Hp} {v : V} (sm : SeqM d m ps xs) (rp : Rep (dom m) H d v) (mu : MutR m H) :
    ∃ (k : Bool) (a : Addr), v = .ref a ∧ ∀ m' H', Stp (dom m) H (dom m') H' → MutR m' H' → Sub ps m m' → ∃ vs, SqS k K H' a vs ∧ Reps (dom m') H' xs vs := by
  cases sm with
  | lst =>
    cases rp with
    | @lst a _ vs mm hh rs => exact ⟨false, a, rfl, fun m' H' st mu' _ => ⟨vs, rd_l (st.rd mm hh).1, rs.mono st⟩⟩
  | tup =>
    cases rp with
    | @tup a _ vs mm hh rs => exact ⟨true, a, rfl, fun m' H' st mu' _ => ⟨vs, rd_t (st.rd mm hh).1, rs.mono st⟩⟩
  | @mutb _ p _ h =>
    cases rp
    refine ⟨false, p, rfl, fun m' H' st mu' sb => ?_⟩
    have q := (sb p (List.mem_cons_self ..) _ h).rep mu'
    cases q with
    | lst hh rs => exact ⟨_, SqL.of hh, rs⟩
theorem Reps.lt {M : Addr → Prop} {H : Hp} {xs : List D} {vs : List V} (r : Reps M H xs vs) {i : Nat} (h : i < xs.length) : ∃ v, vs[i]? = some v := ⟨vs[i]'(by rw [← r.length]; exact h), by simp⟩
def Wi (W : WX) (E : ET) (wi : TI) (r : Rho) (m : Mu) (KI : List D → List Addr → Mu → Prop) : Prop := ∀ s H R, EnvR r m s H → Rz W E m H →
  (∀ J xs ps m' H', Stp (dom m) H (dom m') H' → MutR m' H' → IsIt J ps m' H' xs → KI xs ps m' → R J H') → wi s H R
section
variable {W : WX} {E : ET} {r : Rho} {m : Mu} {KI : List D → List Addr → Mu → Prop} {G : Gx} {te : TE} {ta : TA}
theorem wi_seq (h : We W E te r m fun d m1 => ∃ ps xs, SeqM d m1 ps xs ∧ KI xs ps m1) : Wi W E (iSeq G.K te) r m KI := fun s H R e z g =>
  h s H _ e z fun d m1 v H1 s1 mu1 r1 ⟨ps, xs, sm, k⟩ => by
    obtain ⟨kk, a, rfl, q⟩ := sm.at (K := G.K) r1 mu1
    cases kk with
    | false =>
      refine .inl ⟨a, rfl, (q m1 H1 (Stp.refl _ _) mu1 Sub.refl).imp fun _ x => x.1, g _ xs ps m1 H1 s1 mu1 ⟨fun i m' H' st mu' sb hi => ?_, fun i m' H' st mu' sb v H2 y hi => ?_, fun m' H' st mu' sb => ?_⟩ k⟩
      · obtain ⟨vs, sq, rs⟩ := q m' H' st mu' sb
        obtain ⟨v, hv⟩ := rs.lt hi
        exact ⟨vs, v, sq, hv⟩
      · obtain ⟨vs, sq, rs⟩ := q m' H' st mu' sb
        obtain ⟨rfl, y⟩ := y
        obtain ⟨d, h1, h2⟩ := rs.getV (y vs sq)
        exact ⟨d, h1, Stp.refl _ _, mu', h2⟩
      · obtain ⟨vs, sq, rs⟩ := q m' H' st mu' sb
        exact ⟨vs, sq, by rw [rs.length]; exact Nat.le_refl _⟩
    | true =>
      refine .inr ⟨a, rfl, (q m1 H1 (Stp.refl _ _) mu1 Sub.refl).imp fun _ x => x.1, g _ xs ps m1 H1 s1 mu1 ⟨fun i m' H' st mu' sb hi => ?_, fun i m' H' st mu' sb v H2 y hi => ?_, fun m' H' st mu' sb => ?_⟩ k⟩
      · obtain ⟨vs, sq, rs⟩ := q m' H' st mu' sb
        obtain ⟨v, hv⟩ := rs.lt hi
        exact ⟨vs, v, sq, hv⟩
      · obtain ⟨vs, sq, rs⟩ := q m' H' st mu' sb
        obtain ⟨rfl, y⟩ := y
        obtain ⟨d, h1, h2⟩ := rs.getV (y vs sq)
        exact ⟨d, h1, Stp.refl _ _, mu', h2⟩
      · obtain ⟨vs, sq, rs⟩ := q m' H' st mu' sb
        exact ⟨vs, sq, by rw [rs.length]; exact Nat.le_refl _⟩
/-- lo, lo + 1, .., n of them -/
def ran (lo : Int) (n : Nat) : List D := (List.range n).map fun (i : Nat) => D.int (lo + (i : Int))
theorem ran_len {lo : Int} {n : Nat} : (ran lo n).length = n := by simp [ran]
theorem ran_get {lo : Int} {n i : Nat} (h : i < n) : (ran lo n)[i]? = some (.int (lo + (i : Int))) := by simp [ran, h]
theorem isIt_ran {lo : Int} {n : Nat} {H : Hp} : IsIt (Itr lo n) [] m H (ran lo n) :=
  ⟨fun i m' H' _ _ _ hi => by rw [ran_len] at hi; exact hi, fun i m' H' _ mu' _ v H2 y hi => by
    rw [ran_len] at hi
    obtain ⟨rfl, rfl⟩ := y
    exact ⟨_, ran_get hi, Stp.refl _ _, mu', .int _⟩, fun m' H' _ _ _ => by rw [ran_len]; exact Nat.le_refl _⟩
theorem wi_rng1 (h : Wa W E ta r m fun ds m1 => ∃ j : Int, ds = [.int j] ∧ (-(2 ^ 62) ≤ j ∧ j < 2 ^ 62) ∧ KI (ran 0 j.toNat) [] m1) : Wi W E (iRng1 ta) r m KI := fun s H R e z g =>
  h s H _ e z fun ds m1 vs H1 s1 mu1 r1 ⟨j, hd, ⟨b1, b2⟩, k⟩ => by
    subst hd
    cases r1 with
    | cons ra t =>
      cases t
      cases ra
      exact ⟨j, rfl, b1, b2, g _ _ [] m1 H1 s1 mu1 isIt_ran k⟩
theorem wi_rng2 (h : Wa W E ta r m fun ds m1 => ∃ l j : Int, ds = [.int l, .int j] ∧ (-(2 ^ 62) ≤ l ∧ l < 2 ^ 62 ∧ -(2 ^ 62) ≤ j ∧ j < 2 ^ 62) ∧ KI (ran l (j - l).toNat) [] m1) : Wi W E (iRng2 ta) r m KI := fun s H R e z g =>
  h s H _ e z fun ds m1 vs H1 s1 mu1 r1 ⟨l, j, hd, b, k⟩ => by
    subst hd
    cases r1 with
    | cons ra t =>
      cases t with
      | cons rb t =>
        cases t
        cases ra
        cases rb
        exact ⟨l, j, rfl, b, g _ _ [] m1 H1 s1 mu1 isIt_ran k⟩
def zipD (xs ys : List D) : List D := List.zipWith (fun x y => D.tup [x, y]) xs ys
theorem wi_zip (h : Wa W E ta r m fun ds m1 => ∃ x y ps qs xs ys, ds = [x, y] ∧ SeqM x m1 ps xs ∧ SeqM y m1 qs ys ∧ KI (zipD xs ys) (ps ++ qs) m1) : Wi W E (iZipS G.K ta) r m KI := fun s H R e z g =>
  h s H _ e z fun ds m1 vs H1 s1 mu1 r1 ⟨x, y, ps, qs, xs, ys, hd, sx, sy, k⟩ => by
    subst hd
    cases r1 with
    | cons ra t =>
      cases t with
      | cons rb t =>
        cases t
        obtain ⟨ka, a, rfl, qa⟩ := sx.at (K := G.K) ra mu1
        obtain ⟨kb, b, rfl, qb⟩ := sy.at (K := G.K) rb mu1
        have sl : ∀ {m' : Mu}, Sub (ps ++ qs) m1 m' → Sub ps m1 m' := fun h p hp => h p (List.mem_append_left _ hp)
        have sr : ∀ {m' : Mu}, Sub (ps ++ qs) m1 m' → Sub qs m1 m' := fun h p hp => h p (List.mem_append_right _ hp)
        obtain ⟨va, sa, _⟩ := qa m1 H1 (Stp.refl _ _) mu1 Sub.refl
        obtain ⟨vb, sb, _⟩ := qb m1 H1 (Stp.refl _ _) mu1 Sub.refl
        refine ⟨ka, kb, a, b, va, vb, rfl, sa, sb, g _ (zipD xs ys) (ps ++ qs) m1 H1 s1 mu1 ⟨fun i m' H' st mu' su hi => ?_, fun i m' H' st mu' su v H2 yl hi => ?_, fun m' H' st mu' su => ?_⟩ k⟩
        · obtain ⟨vs, sq, rs⟩ := qa m' H' st mu' (sl su)
          obtain ⟨ws, sq2, rs2⟩ := qb m' H' st mu' (sr su)
          have hl : i < xs.length ∧ i < ys.length := by simpa [zipD, Nat.lt_min] using hi
          obtain ⟨v, hv⟩ := rs.lt hl.1
          obtain ⟨w, hw⟩ := rs2.lt hl.2
          exact ⟨vs, ws, v, w, sq, sq2, hv, hw⟩
        · obtain ⟨vs, sq, rs⟩ := qa m' H' st mu' (sl su)
          obtain ⟨ws, sq2, rs2⟩ := qb m' H' st mu' (sr su)
          obtain ⟨T, x, y, rfl, hT, rfl, hx, hy⟩ := yl
          obtain ⟨dx, h1, h2⟩ := rs.getV (hx vs sq)
          obtain ⟨dy, h3, h4⟩ := rs2.getV (hy ws sq2)
          have st2 : Stp (dom m') H' (dom m') (upd H' T (.tup [x, y])) := Stp.new hT
          refine ⟨.tup [dx, dy], by simp [zipD, List.getElem?_zipWith, h1, h3], st2, mu'.new hT, .tup (fun zz => by obtain ⟨u, hu⟩ := mu'.there zz; rw [hT] at hu; cases hu) (.inl upd_same) (.cons (h2.mono st2) (.cons (h4.mono st2) .nil))⟩
        · obtain ⟨vs, sq, rs⟩ := qa m' H' st mu' (sl su)
          obtain ⟨ws, sq2, rs2⟩ := qb m' H' st mu' (sr su)
          refine ⟨vs, ws, sq, sq2, ?_⟩
          have : (zipD xs ys).length = min xs.length ys.length := by simp [zipD]
          rw [this, ← rs.length, ← rs2.length]
          omega
end

/-! ### what a comprehension's targets leave -/
theorem wipe_get {s : L2.St} {i : Nat} : ∀ {vs : List Nat}, (wipe s vs)[i]? = if i ∈ vs then (s[i]?).map fun _ => none else s[i]?
  | [] => by simp [wipe]
  | v :: vs => by
    show ((wipe s vs).set v none)[i]? = _
    rw [List.getElem?_set, wipe_length, wipe_get (vs := vs)]
    by_cases h : v = i
    · subst h
      by_cases hl : v < s.length <;> simp [hl]
    · have : ¬ i = v := fun e => h e.symm
      by_cases hm : i ∈ vs <;> simp [h, this, hm]
theorem wipe_wipe {s : L2.St} {vs : List Nat} : wipe (wipe s vs) vs = wipe s vs := List.ext_getElem? fun i => by
  rw [wipe_get, wipe_get]
  split <;> cases s[i]? <;> rfl
theorem wipe_set {s : L2.St} {vs : List Nat} {i : Nat} {x : Option V} (h : i ∈ vs) : wipe (s.set i x) vs = wipe s vs := List.ext_getElem? fun j => by
  rw [wipe_get, wipe_get]
  by_cases hj : j ∈ vs
  · rw [if_pos hj, if_pos hj, List.getElem?_set]
    by_cases e : i = j
    · subst e
      by_cases hl : i < s.length <;> simp [hl]
    · simp [e]
  · rw [if_neg hj, if_neg hj, List.getElem?_set_ne (fun e => hj (by subst e; exact h))]
structure GK (g : TG) (vs : List Nat) : Prop where
  keep : ∀ v σ H (Q Q' : L2.St → Hp → Prop), g v σ H Q → (∀ σ' H', wipe σ' vs = wipe σ vs → Q σ' H' → Q' σ' H') → g v σ H Q'
structure GKs (g : TGs) (vs : List Nat) : Prop where
  keep : ∀ v σ H (Q Q' : L2.St → Hp → Prop), g v σ H Q → (∀ σ' H', wipe σ' vs = wipe σ vs → Q σ' H' → Q' σ' H') → g v σ H Q'
theorem gk_name {i : Nat} {vs : List Nat} (h : vs.contains i = true) : GK (gName i) vs := ⟨fun v σ H Q Q' q k => k _ _ (wipe_set (by simpa using h)) q⟩
theorem gks_nil {vs : List Nat} : GKs gNil vs := ⟨fun v σ H Q Q' q k => ⟨q.1, k _ _ rfl q.2⟩⟩
theorem gks_cons {g : TG} {gs : TGs} {vs : List Nat} (h : GK g vs) (h' : GKs gs vs) : GKs (gCons g gs) vs := ⟨fun v σ H Q Q' q k => by
  obtain ⟨x, r, e, q⟩ := q
  exact ⟨x, r, e, h.keep _ _ _ _ _ q fun σ1 H1 e1 q1 => h'.keep _ _ _ _ _ q1 fun σ2 H2 e2 q2 => k _ _ (e2.trans e1) q2⟩⟩
theorem gk_tup {K : PySem.W.Frag} {n : Nat} {gs : TGs} {vs : List Nat} (h : GKs gs vs) : GK (gTup K n gs) vs := ⟨fun v σ H Q Q' q k => by
  obtain ⟨a, xs, e, sq, hl, q⟩ := q
  exact ⟨a, xs, e, sq, hl, h.keep _ _ _ _ _ q k⟩⟩
def wipeR (r : Rho) : List Nat → Rho
  | [] => r
  | v :: vs => (wipeR r vs).set v none
theorem ROs.wipe {M : Addr → Prop} {H : Hp} {r : Rho} {s : L2.St} (h : ROs M H r s) : ∀ vs, ROs M H (wipeR r vs) (L2.wipe s vs)
  | [] => h
  | v :: vs => (ROs.wipe h vs).set (.none _) v

/-! ### comprehensions -/
theorem rz_no {m : Mu} {H : Hp} : Rz wNo eNo m H := fun _ _ _ _ _ _ _ _ _ _ q => q.elim
section
variable {W : WX} {E : ET} {r : Rho} {m : Mu} {K : KT} {G : Gx} {te : TE} {tt : TT} {wi : TI} {g : TG} {vs : List Nat}
/-- by an invariant; the list that is made stays mutable -/
theorem we_lcI (gk : GK g vs) (h : Wi W E wi r m fun xs ps m1 => ∀ Dd, ¬ dom m1 Dd → ∃ I : Nat → Mu → Prop, I 0 ((Dd, .lst []) :: m1) ∧ (∀ i m', I i m' → Sub ps m1 m') ∧
      (∀ i x m', xs[i]? = some x → I i m' → Wg wNo eNo g x (wipeR r vs) m' fun r2 m2 => Wt wNo eNo tt r2 m2 fun b m3 =>
        (b = true → We wNo eNo te r2 m3 fun y m4 => ∃ acc m5, At m4 Dd (.lst acc) ∧ acc.length < 1000000 ∧ Put m4 Dd (.lst (acc ++ [y])) m5 ∧ I (i + 1) m5) ∧ (b = false → I (i + 1) m3)) ∧
      (∀ m', I xs.length m' → K (.ref Dd) m')) : We W E (tLc wi g tt te vs) r m K := fun s H Q e z gg =>
  h s H _ e z fun J xs ps m1 H1 s1 mu1 it q => fun Dd hD => by
    have nD : ¬ dom m1 Dd := fun zz => by
      obtain ⟨u, hu⟩ := mu1.there zz
      rw [hD] at hu
      cases hu
    obtain ⟨I, i0, isub, istep, iend⟩ := q Dd nD
    have st0 : Stp (dom m1) H1 (dom ((Dd, MO.lst []) :: m1)) (upd H1 Dd (.lst [])) := Stp.newM hD
    refine ⟨fun i n H' => n = xs.length - i ∧ i ≤ xs.length ∧ ∃ m', Stp (dom m1) H1 (dom m') H' ∧ MutR m' H' ∧ I i m', ⟨xs.length, rfl, Nat.zero_le _, _, st0, mu1.newM hD (.lst upd_same .nil), i0⟩, ?_⟩
    rintro i n H' ⟨rfl, hi, m', st, mu', hI⟩
    have sb := isub i m' hI
    by_cases hlt : i < xs.length
    · refine .inr ⟨it.go i m' H' st mu' sb hlt, fun H'' => ∃ m', Stp (dom m1) H1 (dom m') H'' ∧ MutR m' H'' ∧ I (i + 1) m', fun H'' q => ⟨_, by omega, rfl, hlt, q⟩, fun v H2 y => ?_⟩
      obtain ⟨d, hd, st2, mu2, rp⟩ := it.yld i m' H' st mu' sb v H2 y hlt
      have sta := s1.trans (st.trans st2)
      have e2 : EnvR (wipeR r vs) m' (wipe s vs) H2 := ⟨(e.env.mono sta).wipe vs, mu2⟩
      refine gk.keep _ _ _ _ _ (istep i d m' hd hI (wipe s vs) H2 v (fun σ2 H3 => ∃ r2 m2, Stp (dom m') H2 (dom m2) H3 ∧ EnvR r2 m2 σ2 H3 ∧ _) e2 rz_no rp fun r2 m2 s2 H3 a b c => ⟨r2, m2, a, b, c⟩) fun σ2 H3 hw ⟨r2, m2, st3, e3, q⟩ => ⟨hw.trans wipe_wipe, ?_⟩
      refine q σ2 H3 _ e3 rz_no fun b m3 H4 st4 mu4 q4 => ?_
      have stb := (st.trans st2).trans (st3.trans st4)
      cases b with
      | false =>
        rw [if_neg Bool.false_ne_true]
        exact ⟨m3, stb, mu4, q4.2 rfl⟩
      | true =>
        rw [if_pos rfl]
        refine q4.1 rfl σ2 H4 _ (e3.step st4 mu4) rz_no fun y m4 vy H5 st5 mu5 r5 q5 => ?_
        obtain ⟨acc, m5, ha, hl, hp, hI2⟩ := q5
        have at1 := ha.rep mu5
        cases at1 with
        | @lst _ ws hh rr =>
          have stp : ∀ o, Stp (dom m4) H5 (dom m5) (upd H5 Dd o) := fun o => hp.stp
          refine ⟨ws, hh, Nat.lt_of_lt_of_le (by rw [← rr.length]; exact hl) (by decide : 1000000 ≤ sizeLine), m5, stb.trans (st5.trans (stp _)), hp.mut mu5 (.lst upd_same (Reps.append (rr.mono (stp _)) (.cons (r5.mono (stp _)) .nil))), hI2⟩
    · have ei : i = xs.length := by omega
      subst ei
      exact .inl ⟨it.stop m' H' st mu' sb, gg _ m' _ H' (s1.trans st) mu' (.ref Dd) (iend m' hI)⟩
/-- a list just made, not written any more -/
theorem we_frz (h : We W E te r m fun d m' => ∃ p xs m1, d = .ref p ∧ m' = (p, .lst xs) :: m1 ∧ K (.lst xs) m1) : We W E te r m K := fun s H Q e z g =>
  h s H _ e z fun d m' v H1 s1 mu1 r1 ⟨p, xs, m1, hd, hm, k⟩ => by
    subst hd hm
    cases r1
    have ls : Stp (dom ((p, MO.lst xs) :: m1)) H1 (dom m1) H1 := Stp.less fun a z => dom_cons.mpr (.inr z)
    have q := (At.head (m := m1) (p := p) (o := .lst xs)).rep mu1
    cases q with
    | lst hh rr => exact g _ m1 _ H1 (s1.trans ls) mu1.drop (.lst mu1.notin (.inl hh) (rr.mono ls)) k
/-- the elements by a function of what the items stand for; those that pass are taken -/
theorem we_lcG {α : Type} (l : List α → Prop) (inj : α → D) (p : α → Bool) (f : α → D) (gk : GK g vs) (h : Wi W E wi r m fun xs ps m1 => ∃ zs : List α, xs = zs.map inj ∧ l zs ∧ Nat.ble zs.length 100000 = true ∧
      (∀ a ∈ zs, ∀ (q : Addr × MO), Wg wNo eNo g (inj a) (wipeR r vs) (q :: m1) fun r2 m2 => Wt wNo eNo tt r2 m2 fun b m3 => b = p a ∧
        (b = true → We wNo eNo te r2 m3 fun y m4 => y = f a ∧ m4 = q :: m1) ∧ (b = false → m3 = q :: m1)) ∧
      ∀ Dd, ¬ dom m1 Dd → K (.ref Dd) ((Dd, .lst ((zs.filter p).map f)) :: m1)) : We W E (tLc wi g tt te vs) r m K :=
  we_lcI gk fun s H R e z gg => h s H R e z fun J xs ps m1 H1 s1 mu1 it ⟨zs, hx, _, hlen, hel, hK⟩ => gg J xs ps m1 H1 s1 mu1 it fun Dd hD => by
    subst hx
    have hlen' := Nat.le_of_ble_eq_true hlen
    have hle : ∀ i, (((zs.take i).filter p).map f).length ≤ 100000 := fun i => by
      rw [List.length_map]
      exact Nat.le_trans (List.length_filter_le ..) (by rw [List.length_take]; omega)
    refine ⟨fun i m' => m' = (Dd, .lst (((zs.take i).filter p).map f)) :: m1, rfl, fun i m' e => by subst e; exact Sub.cons, fun i x m' hx e => ?_, fun m' e => ?_⟩
    · subst e
      rw [List.getElem?_map] at hx
      cases ha : zs[i]? with
      | none => rw [ha] at hx; cases hx
      | some a =>
        rw [ha] at hx
        cases hx
        have ex : zs.take (i + 1) = zs.take i ++ [a] := by
          rw [List.take_add_one, ha]
          rfl
        intro s2 H2 v Q e2 z2 rp2 g2
        refine hel a (List.mem_of_getElem? ha) _ s2 H2 v Q e2 z2 rp2 fun r3 m3 s3 H3 a3 b3 c3 => g2 r3 m3 s3 H3 a3 b3 ?_
        intro s4 H4 Q4 e4 z4 g4
        refine c3 s4 H4 Q4 e4 z4 fun b m5 H5 a5 b5 ⟨hb, ht, hf⟩ => g4 b m5 H5 a5 b5 ⟨fun hbt => ?_, fun hbf => ?_⟩
        · refine (ht hbt).imp fun y m6 ⟨e5, e6⟩ => ?_
          subst e5 e6
          have hp : p a = true := by rw [← hb]; exact hbt
          have e7 : ((zs.take (i + 1)).filter p).map f = ((zs.take i).filter p).map f ++ [f a] := by
            rw [ex, List.filter_append, List.map_append]
            simp [hp]
          refine ⟨_, _, .head, Nat.lt_of_le_of_lt (hle i) (by decide), .head, ?_⟩
          show _ = (Dd, MO.lst (((zs.take (i + 1)).filter p).map f)) :: m1
          rw [e7]
        · have hp : p a = false := by rw [← hb]; exact hbf
          have e7 : ((zs.take (i + 1)).filter p).map f = ((zs.take i).filter p).map f := by
            rw [ex, List.filter_append, List.map_append]
            simp [hp]
          show m5 = (Dd, MO.lst (((zs.take (i + 1)).filter p).map f)) :: m1
          rw [e7]
          exact hf hbf
    · subst e
      rw [List.length_map, List.take_length]
      exact hK Dd hD
theorem filter_tt {α : Type} {l : List α} : l.filter (fun _ => true) = l := List.filter_eq_self.mpr fun _ _ => rfl
theorem wt_yes {KB : Bool → Mu → Prop} (h : KB true m) : Wt W E tYes r m KB := fun s H Q e z g => g true m H (Stp.refl _ _) e.mu h
/-- an element's end; what a comprehension wants -/
structure LcL {α : Type} (f : α → D) (a : α) (y : D) (m0 m : Mu) : Prop where
  e : y = f a
  s : m = m0
structure LcS (len : Bool) (el k : Prop) : Prop where
  len : len = true
  el : el
  k : k
/-- without tests, the list fixed -/
theorem we_lcs {α : Type} (inj : α → D) (f : α → D) (gk : GK g vs) (h : Wi W E wi r m fun xs ps m1 => ∃ zs : List α, xs = zs.map inj ∧ LcS (Nat.ble zs.length 100000)
      (∀ a ∈ zs, ∀ (q : Addr × MO), Wg wNo eNo g (inj a) (wipeR r vs) (q :: m1) fun r2 m2 => We wNo eNo te r2 m2 fun y m4 => LcL f a y (q :: m1) m4) (K (.lst (zs.map f)) m1)) : We W E (tLc wi g tYes te vs) r m K :=
  we_frz (we_lcG (fun _ => True) inj (fun _ => true) f gk fun s H R e z gg => h s H R e z fun J xs ps m1 H1 s1 mu1 it ⟨zs, hx, ⟨hlen, hel, hK⟩⟩ => gg J xs ps m1 H1 s1 mu1 it
    ⟨zs, hx, trivial, hlen, fun a ha q s2 H2 v Q e2 z2 rp2 g2 => hel a ha q s2 H2 v Q e2 z2 rp2 fun r3 m3 s3 H3 a3 b3 c3 => g2 r3 m3 s3 H3 a3 b3 (wt_yes ⟨rfl, fun _ => c3.imp fun _ _ l => ⟨l.e, l.s⟩, fun q => nomatch q⟩),
      fun Dd hD => ⟨Dd, _, m1, rfl, rfl, by rw [filter_tt]; exact hK⟩⟩)
/-- with a test, the list fixed -/
theorem we_lcp {α : Type} (inj : α → D) (p : α → Bool) (f : α → D) (gk : GK g vs) (h : Wi W E wi r m fun xs ps m1 => ∃ zs : List α, xs = zs.map inj ∧ LcS (Nat.ble zs.length 100000)
      (∀ a ∈ zs, ∀ (q : Addr × MO), Wg wNo eNo g (inj a) (wipeR r vs) (q :: m1) fun r2 m2 => Wt wNo eNo tt r2 m2 fun b m3 => b = p a ∧
        (b = true → We wNo eNo te r2 m3 fun y m4 => LcL f a y (q :: m1) m4) ∧ (b = false → m3 = q :: m1)) (K (.lst ((zs.filter p).map f)) m1)) : We W E (tLc wi g tt te vs) r m K :=
  we_frz (we_lcG (fun _ => True) inj p f gk fun s H R e z gg => h s H R e z fun J xs ps m1 H1 s1 mu1 it ⟨zs, hx, ⟨hlen, hel, hK⟩⟩ => gg J xs ps m1 H1 s1 mu1 it
    ⟨zs, hx, trivial, hlen, fun a ha q s2 H2 v Q e2 z2 rp2 g2 => hel a ha q s2 H2 v Q e2 z2 rp2 fun r3 m3 s3 H3 a3 b3 c3 => g2 r3 m3 s3 H3 a3 b3
      fun s4 H4 Q4 e4 z4 g4 => c3 s4 H4 Q4 e4 z4 fun b m5 H5 a5 b5 ⟨hb, ht, hf⟩ => g4 b m5 H5 a5 b5 ⟨hb, fun hbt => (ht hbt).imp fun _ _ l => ⟨l.e, l.s⟩, hf⟩, fun Dd hD => ⟨Dd, _, m1, rfl, rfl, hK⟩⟩)
/-- without tests, the list mutable -/
theorem we_lcM {α : Type} (inj : α → D) (f : α → D) (gk : GK g vs) (h : Wi W E wi r m fun xs ps m1 => ∃ zs : List α, xs = zs.map inj ∧ LcS (Nat.ble zs.length 100000)
      (∀ a ∈ zs, ∀ (q : Addr × MO), Wg wNo eNo g (inj a) (wipeR r vs) (q :: m1) fun r2 m2 => We wNo eNo te r2 m2 fun y m4 => LcL f a y (q :: m1) m4) (∀ Dd, ¬ dom m1 Dd → K (.ref Dd) ((Dd, .lst (zs.map f)) :: m1))) : We W E (tLc wi g tYes te vs) r m K :=
  we_lcG (fun _ => True) inj (fun _ => true) f gk fun s H R e z gg => h s H R e z fun J xs ps m1 H1 s1 mu1 it ⟨zs, hx, ⟨hlen, hel, hK⟩⟩ => gg J xs ps m1 H1 s1 mu1 it
    ⟨zs, hx, trivial, hlen, fun a ha q s2 H2 v Q e2 z2 rp2 g2 => hel a ha q s2 H2 v Q e2 z2 rp2 fun r3 m3 s3 H3 a3 b3 c3 => g2 r3 m3 s3 H3 a3 b3 (wt_yes ⟨rfl, fun _ => c3.imp fun _ _ l => ⟨l.e, l.s⟩, fun q => nomatch q⟩),
      fun Dd hD => by rw [filter_tt]; exact hK Dd hD⟩
end

/-! ### loops -/
section
variable {W : WX} {E : ET} {r : Rho} {m : Mu} {P : DEnds} {wi : TI} {g : TG} {tb : TS}
theorem ws_forI (h : Wi W E wi r m fun xs ps m1 => ∃ I : Nat → Rho → Mu → Prop, I 0 r m1 ∧ (∀ k r' m', I k r' m' → Sub ps m1 m') ∧
    (∀ k x r' m', xs[k]? = some x → I k r' m' → Wg W E g x r' m' fun r2 m2 => Ws W E tb r2 m2 { nx := I (k + 1), rt := P.rt, bk := P.nx, ct := I (k + 1) }) ∧ (∀ r' m', I xs.length r' m' → P.nx r' m')) :
    Ws W E (tFor wi g tb) r m P := fun s H De e z gg =>
  h s H _ e z fun J xs ps m1 H1 s1 mu1 it ⟨I, i0, isub, istep, iend⟩ => by
    refine ⟨fun i n s' H' => n = xs.length - i ∧ i ≤ xs.length ∧ ∃ r' m', Stp (dom m1) H1 (dom m') H' ∧ EnvR r' m' s' H' ∧ I i r' m', ⟨xs.length, rfl, Nat.zero_le _, r, m1, Stp.refl _ _, e.step s1 mu1, i0⟩, ?_⟩
    rintro i n s' H' ⟨rfl, hi, r', m', st, e', hI⟩
    have sb := isub i r' m' hI
    by_cases hlt : i < xs.length
    · refine .inr ⟨it.go i m' H' st e'.mu sb hlt, fun s2 H2 => ∃ r2 m2, Stp (dom m1) H1 (dom m2) H2 ∧ EnvR r2 m2 s2 H2 ∧ I (i + 1) r2 m2, fun s2 H2 q => ⟨_, by omega, rfl, hlt, q⟩, fun v H2 y => ?_⟩
      obtain ⟨d, hd, st2, mu2, rp⟩ := it.yld i m' H' st e'.mu sb v H2 y hlt
      refine istep i d r' m' hd hI s' H2 v _ (e'.step st2 mu2) (z.step (s1.trans (st.trans st2))) rp fun r3 m3 s3 H3 st3 e3 q3 => ?_
      have sta := st.trans (st2.trans st3)
      exact q3 s3 H3 _ e3 (z.step (s1.trans sta)) (goL gg (s1.trans sta) fun r4 m4 s4 H4 a4 b4 c4 => ⟨r4, m4, sta.trans a4, b4, c4⟩)
    · have ei : i = xs.length := by omega
      subst ei
      exact .inl ⟨it.stop m' H' st e'.mu sb, gg.nx r' m' s' H' (s1.trans st) e' (iend r' m' hI)⟩
end
end DL
set_option Elab.async false
set_option linter.all false
set_option maxRecDepth 100000
/-! DL22: mutable objects taken as fixed, for a while or for good; lists and tuples made of others; sums, joins, cuts. -/
namespace DL
open PySem PySem.Spec L2
open PyProof.Rows hiding St

/-! ### mutable objects taken as fixed -/
mutual
/-- d, where the objects of own that it names are taken as they lie -/
inductive Frz (own : Mu) : D → D → Prop
  | same (d : D) : Frz own d d
  | ref {p : Addr} {xs ys : List D} (h : At own p (.lst xs)) (t : FrzL own xs ys) : Frz own (.ref p) (.lst ys)
  | refI {p C : Addr} {ns : List Str} {ds es : List D} (h : At own p (.ins C ns ds)) (t : FrzL own ds es) : Frz own (.ref p) (.ins C ns es)
  | lst {xs ys : List D} (t : FrzL own xs ys) : Frz own (.lst xs) (.lst ys)
  | tup {xs ys : List D} (t : FrzL own xs ys) : Frz own (.tup xs) (.tup ys)
inductive FrzL (own : Mu) : List D → List D → Prop
  | nil : FrzL own [] []
  | cons {x y : D} {xs ys : List D} (h : Frz own x y) (t : FrzL own xs ys) : FrzL own (x :: xs) (y :: ys)
end
theorem FrzL.same {own : Mu} : ∀ xs : List D, FrzL own xs xs
  | [] => .nil
  | x :: xs => .cons (.same x) (FrzL.same xs)
theorem At.app {own base : Mu} {p : Addr} {o : MO} (h : At own p o) : At (own ++ base) p o := by
  induction h with
  | head => exact .head
  | tail _ ih => exact .tail ih
theorem At.appR {own base : Mu} {p : Addr} {o : MO} (h : At base p o) : At (own ++ base) p o := by
  induction own with
  | nil => exact h
  | cons q own ih => exact .tail ih
theorem dom_app {own base : Mu} {a : Addr} (h : dom base a) : dom (own ++ base) a := by
  unfold dom at *
  rw [List.map_append]
  exact List.mem_append_right _ h
theorem MutR.base {own base : Mu} {H : Hp} (r : MutR (own ++ base) H) : MutR base H := by
  induction own with
  | nil => exact r
  | cons q own ih => exact ih r.drop
theorem MutR.apart {own base : Mu} {H : Hp} (r : MutR (own ++ base) H) {p : Addr} {o : MO} (h : At own p o) : ¬ dom base p := by
  have nd := r.nd
  rw [List.map_append, List.nodup_append] at nd
  exact fun z => nd.2.2 p (List.mem_map.mpr ⟨_, h.mem, rfl⟩) p z rfl
theorem repF_of {M : Addr → Prop} {H : Hp} : ∀ {ns : List Str} {ds es : List D} {vs : List (Str × V)}, RepF M H ns ds vs → (∀ vs', vs.map (·.2) = vs' → Reps M H es vs') → es.length = ds.length → RepF M H ns es vs
  | _, _, es, _, .nil, _, hl => by
    cases es with
    | nil => exact .nil
    | cons _ _ => simp at hl
  | _, _, es, (n, v) :: vs, .cons r t, h, hl => by
    cases es with
    | nil => simp at hl
    | cons e es =>
      have q := h _ rfl
      simp only [List.map_cons] at q
      cases q with
      | cons q1 q2 => exact .cons q1 (repF_of t (fun vs' e => by subst e; exact q2) (by simpa using hl))
theorem repF_vals {M : Addr → Prop} {H : Hp} : ∀ {ns : List Str} {ds : List D} {vs : List (Str × V)}, RepF M H ns ds vs → Reps M H ds (vs.map (·.2))
  | _, _, _, .nil => .nil
  | _, _, _, .cons r t => .cons r (repF_vals t)
theorem FrzL.len {own : Mu} : ∀ {xs ys : List D}, FrzL own xs ys → ys.length = xs.length
  | _, _, .nil => rfl
  | _, _, .cons _ t => congrArg (· + 1) (FrzL.len t)
mutual
theorem Frz.rep {own base : Mu} {H : Hp} (mu : MutR (own ++ base) H) : ∀ {d d' : D}, Frz own d d' → ∀ {v : V}, Rep (dom (own ++ base)) H d v → Rep (dom base) H d' v
  | _, _, .same d, v, r => r.mono (Stp.less fun a z => dom_app z)
  | _, _, .ref h t, v, r => by
    cases r
    have q := (h.app (base := base)).rep mu
    cases q with
    | lst hh rs => exact .lst (mu.apart h) (.inl hh) (FrzL.rep mu t rs)
  | _, _, .refI h t, v, r => by
    cases r
    have q := (h.app (base := base)).rep mu
    cases q with
    | ins hh rf => exact .ins (mu.apart h) hh (repF_of (rf.mono (Stp.less fun a z => dom_app z)) (fun vs' e => by subst e; exact FrzL.rep mu t (repF_vals rf)) t.len)
  | _, _, .lst t, v, r => by
    cases r with
    | lst mm hh rs => exact .lst (fun z => mm (dom_app z)) hh (FrzL.rep mu t rs)
  | _, _, .tup t, v, r => by
    cases r with
    | tup mm hh rs => exact .tup (fun z => mm (dom_app z)) hh (FrzL.rep mu t rs)
theorem FrzL.rep {own base : Mu} {H : Hp} (mu : MutR (own ++ base) H) : ∀ {d d' : List D}, FrzL own d d' → ∀ {v : List V}, Reps (dom (own ++ base)) H d v → Reps (dom base) H d' v
  | _, _, .nil, _, .nil => .nil
  | _, _, .cons h t, _, .cons r q => .cons (Frz.rep mu h r) (FrzL.rep mu t q)
end
inductive FrzR (own : Mu) : Rho → Rho → Prop
  | nil : FrzR own [] []
  | none {o : Option D} {r r' : Rho} (t : FrzR own r r') : FrzR own (o :: r) (none :: r')
  | same {o : Option D} {r r' : Rho} (t : FrzR own r r') : FrzR own (o :: r) (o :: r')
  | some {d d' : D} {r r' : Rho} (h : Frz own d d') (t : FrzR own r r') : FrzR own (some d :: r) (some d' :: r')
theorem FrzR.ros {own base : Mu} {H : Hp} (mu : MutR (own ++ base) H) : ∀ {r r' : Rho}, FrzR own r r' → ∀ {s : L2.St}, ROs (dom (own ++ base)) H r s → ROs (dom base) H r' s
  | _, _, .nil, _, .nil => .nil
  | _, _, .none t, _, .cons _ q => .cons (.none _) (FrzR.ros mu t q)
  | _, _, .same t, _, .cons o q => .cons (o.mono (Stp.less fun a z => dom_app z)) (FrzR.ros mu t q)
  | _, _, .some h t, _, .cons o q => by
    cases o with
    | some r => exact .cons (.some (Frz.rep mu h r)) (FrzR.ros mu t q)
theorem EnvR.frz {own base : Mu} {r r' : Rho} {s : L2.St} {H : Hp} (e : EnvR r (own ++ base) s H) (f : FrzR own r r') : EnvR r' base s H := ⟨f.ros e.mu e.env, e.mu.base⟩
section
variable {W : WX} {E : ET} {r r' : Rho} {m base : Mu} {K : KT} {P : DEnds} {te : TE} {t : TS}
/-- for good -/
theorem Ws.frz (own : Mu) (f : FrzR own r r') (h : Ws W E t r' base P) : Ws W E t r (own ++ base) P := fun s H De e z g => by
  have ls : Stp (dom (own ++ base)) H (dom base) H := Stp.less fun a z => dom_app z
  exact h s H De (e.frz f) (z.step ls) ⟨fun r' m' s' H' a b k => g.nx r' m' s' H' (ls.trans a) b k, fun d m' v H' a b c k => g.rt d m' v H' (ls.trans a) b c k, fun r' m' s' H' a b k => g.bk r' m' s' H' (ls.trans a) b k, fun r' m' s' H' a b k => g.ct r' m' s' H' (ls.trans a) b k⟩
/-- an answer -/
theorem we_frzD (own : Mu) {d d' : D} (f : Frz own d d') (h : We W E te r m fun x m' => x = d ∧ m' = own ++ base ∧ K d' base) : We W E te r m K := fun s H Q e z g =>
  h s H _ e z fun x m' v H1 s1 mu1 r1 ⟨e1, e2, k⟩ => by
    subst e1 e2
    have ls : Stp (dom (own ++ base)) H1 (dom base) H1 := Stp.less fun a z => dom_app z
    exact g d' base v H1 (s1.trans ls) mu1.base (f.rep mu1 r1) k
def atomD : D → Bool
  | .non => true
  | .bl _ => true
  | .int _ => true
  | .str _ => true
  | .ty _ => true
  | _ => false
theorem rep_atom {M M' : Addr → Prop} {H H' : Hp} {v : V} : ∀ {d : D}, atomD d = true → Rep M H d v → Rep M' H' d v
  | .non, _, .non => .non
  | .bl _, _, .bl _ => .bl _
  | .int _, _, .int _ => .int _
  | .str _, _, .str _ => .str _
  | .ty _, _, .ty _ => .ty _
/-- for the while of an expression that writes nothing and answers an atom -/
theorem we_thaw (f : FrzR m r r') (h : We W (fun _ _ _ => False) te r' [] fun d m' => m' = [] ∧ atomD d = true ∧ K d m) : We W E te r m K := fun s H Q e z g => by
  have em : m ++ [] = m := List.append_nil m
  have e' : EnvR r (m ++ []) s H := by rw [em]; exact e
  refine h s H _ (e'.frz f) (fun _ _ _ _ _ _ _ _ _ _ q => q.elim) fun d m' v H1 s1 mu1 r1 ⟨hm, ha, k⟩ => ?_
  subst hm
  have un : ∀ a o, H a = some o → H1 a = some o := fun a o ho => (s1 a o ho dom_nil).1
  have st : Stp (dom m) H (dom m) H1 := fun a o ho hn => ⟨un a o ho, hn⟩
  exact g d m v H1 st ⟨e.mu.nd, fun q hq => (e.mu.at_ q hq).mono st fun u hu => un _ _ hu⟩ (rep_atom ha r1) k
/-- the order in which mutable objects are told says nothing -/
theorem MutR.perm {m m' : Mu} {H : Hp} (r : MutR m H) (p : m.Perm m') : MutR m' H ∧ dom m' = dom m := by
  have hd : dom m' = dom m := funext fun a => propext ⟨fun h => (p.map (·.1)).mem_iff.mpr h, fun h => (p.map (·.1)).mem_iff.mp h⟩
  refine ⟨⟨(p.map (·.1)).nodup_iff.mp r.nd, fun q hq => ?_⟩, hd⟩
  rw [hd]
  exact r.at_ q (p.mem_iff.mpr hq)
theorem we_perm (h : We W E te r m fun d m' => ∃ m'', m'.Perm m'' ∧ K d m'') : We W E te r m K := fun s H Q e z g =>
  h s H _ e z fun d m' v H1 s1 mu1 r1 ⟨m'', p, k⟩ => by
    obtain ⟨mu2, hd⟩ := mu1.perm p
    rw [← hd] at s1 r1
    exact g d m'' v H1 s1 mu2 r1 k
end

/-! ### lists and tuples made of others; sums -/
section
variable {X : Cx} {W : WX} {E : ET} {r : Rho} {m : Mu} {K : KT} {G : Gx} {j : Nat} {te : TE}
def rListOf (K : PySem.W.Frag) : List V → Hp → VK → Prop := fun xs H Q => ∃ p ys, xs = [.ref p] ∧ (SqL K H p ys ∨ SqT K H p ys) ∧ ∀ l, H l = none → Q (.ref l) (upd H l (.lst ys))
def rTupleOf (K : PySem.W.Frag) : List V → Hp → VK → Prop := fun xs H Q => ∃ p ys, xs = [.ref p] ∧ ((SqL K H p ys ∧ ∀ l, H l = none → Q (.ref l) (upd H l (.tup ys))) ∨ (SqT K H p ys ∧ Q (.ref p) H))
def cListF (G : Gx) : OC := fun xs _ H Q => rListOf G.K xs H Q
def cTupleF (G : Gx) : OC := fun xs _ H Q => rTupleOf G.K xs H Q
def cSumF (G : Gx) : OC := fun xs _ H Q => rSum G.K xs H Q
theorem cs_list : CallS X (.type "list") (cListF (Gx.of X)) := CallS.of call_list_of
theorem cs_tuple : CallS X (.type "tuple") (cTupleF (Gx.of X)) := CallS.of call_tuple_of
theorem cs_sum (hc : X.calm = true) : CallS X (.builtin "sum") (cSumF (Gx.of X)) := CallS.of (cr_sum hc)
theorem seqM_or {k : Bool} {K : PySem.W.Frag} {H : Hp} {a : Addr} {vs : List V} (h : SqS k K H a vs) : SqL K H a vs ∨ SqT K H a vs := by
  cases k with
  | true => exact .inr h
  | false => exact .inl h
theorem new_notin {m : Mu} {H : Hp} {p : Addr} (mu : MutR m H) (hp : H p = none) : ¬ dom m p := fun zz => by
  obtain ⟨u, hu⟩ := mu.there zz
  rw [hp] at hu
  cases hu
theorem wc_listF {d : D} {ps : List Addr} {xs : List D} (sm : SeqM d m ps xs) (h : K (.lst xs) m) : Wc W E (cListF G) [d] r m K := fun s H Q vs e z rs g => by
  cases rs with
  | cons a t =>
    cases t
    obtain ⟨k, p, rfl, q⟩ := sm.at (K := G.K) a e.mu
    obtain ⟨ws, sq, rw'⟩ := q m H (Stp.refl _ _) e.mu Sub.refl
    exact ⟨p, ws, rfl, seqM_or sq, fun l hl => g _ m _ _ (Stp.new hl) (e.mu.new hl) (.lst (new_notin e.mu hl) (.inl upd_same) (rw'.mono (Stp.new hl))) h⟩
theorem wc_listM {d : D} {ps : List Addr} {xs : List D} (sm : SeqM d m ps xs) (h : ∀ p, ¬ dom m p → K (.ref p) ((p, .lst xs) :: m)) : Wc W E (cListF G) [d] r m K := fun s H Q vs e z rs g => by
  cases rs with
  | cons a t =>
    cases t
    obtain ⟨k, p, rfl, q⟩ := sm.at (K := G.K) a e.mu
    obtain ⟨ws, sq, rw'⟩ := q m H (Stp.refl _ _) e.mu Sub.refl
    exact ⟨p, ws, rfl, seqM_or sq, fun l hl => g _ _ _ _ (Stp.newM (x := .lst xs) hl) (e.mu.newM hl (.lst upd_same (rw'.mono (Stp.newM hl)))) (.ref l) (h l (new_notin e.mu hl))⟩
theorem wc_tupleL {d : D} {ps : List Addr} {xs : List D} (sm : SeqM d m ps xs) (h : K (.tup xs) m) : Wc W E (cTupleF G) [d] r m K := fun s H Q vs e z rs g => by
  cases rs with
  | cons a t =>
    cases t
    have ra := a
    cases sm with
    | tup =>
      cases ra with
      | @tup p _ ws mm hh rr => exact ⟨p, ws, rfl, .inr ⟨rd_t hh, g _ m _ H (Stp.refl _ _) e.mu a h⟩⟩
    | lst =>
      cases ra with
      | @lst p _ ws mm hh rr => exact ⟨p, ws, rfl, .inl ⟨rd_l hh, fun l hl => g _ m _ _ (Stp.new hl) (e.mu.new hl) (.tup (new_notin e.mu hl) (.inl upd_same) (rr.mono (Stp.new hl))) h⟩⟩
    | mutb hp =>
      cases ra
      have q := hp.rep e.mu
      cases q with
      | lst hh rr => exact ⟨_, _, rfl, .inl ⟨SqL.of hh, fun l hl => g _ m _ _ (Stp.new hl) (e.mu.new hl) (.tup (new_notin e.mu hl) (.inl upd_same) (rr.mono (Stp.new hl))) h⟩⟩
/-- a list, not a tuple -/
inductive LstM : D → Mu → List D → Prop
  | lst {m : Mu} {xs : List D} : LstM (.lst xs) m xs
  | mutb {m : Mu} {p : Addr} {xs : List D} (h : At m p (.lst xs)) : LstM (.ref p) m xs
theorem LstM.rd {d : D} {m : Mu} {xs : List D} {H : Hp} {v : V} (l : LstM d m xs) (mu : MutR m H) (rp : Rep (dom m) H d v) : ∃ a vs, v = .ref a ∧ Rd H a (.lst vs) ∧ Reps (dom m) H xs vs := by
  cases l with
  | lst =>
    cases rp with
    | lst mm hh rs => exact ⟨_, _, rfl, hh, rs⟩
  | mutb h =>
    cases rp
    have q := h.rep mu
    cases q with
    | lst hh rs => exact ⟨_, _, rfl, .inl hh, rs⟩
theorem reps_ints {M : Addr → Prop} {H : Hp} : ∀ {ns : List Int} {vs : List V}, Reps M H (ns.map D.int) vs → vs = ns.map V.int
  | [], _, .nil => rfl
  | n :: ns, _, .cons r t => by
    cases r
    rw [reps_ints t]
    rfl
theorem wc_sumF {d : D} {xs : List D} {ns : List Int} (l : LstM d m xs) (e : xs = ns.map D.int) (h : K (.int ns.sum) m) : Wc W E (cSumF G) [d] r m K := fun s H Q vs en z rs g => by
  cases rs with
  | cons a t =>
    cases t
    obtain ⟨p, ws, rfl, hh, rr⟩ := l.rd en.mu a
    subst e
    rw [reps_ints rr] at hh
    exact ⟨p, ns, rfl, rd_l hh, g _ m _ H (Stp.refl _ _) en.mu (.int _) h⟩
/-- two lists joined -/
theorem w2_catL {x y : D} {xs ys : List D} (lx : LstM x m xs) (ly : LstM y m ys) (hl : xs.length + ys.length ≤ 1000000) (h : K (.lst (xs ++ ys)) m) : W2 W E (oAdd G j W) x y r m K := fun s H Q v w e z rx ry g => by
  obtain ⟨a, vs, rfl, ha, ra⟩ := lx.rd e.mu rx
  obtain ⟨b, ws, rfl, hb, rb⟩ := ly.rd e.mu ry
  refine .inr (.inr (.inl ⟨a, b, vs, ws, rfl, rfl, ha, hb, ?_, fun p hp => ?_⟩))
  · rw [← ra.length, ← rb.length]
    exact Nat.le_trans hl (by decide : 1000000 ≤ sizeLine)
  · exact g _ m _ _ (Stp.new hp) (e.mu.new hp) (.lst (new_notin e.mu hp) (.inl upd_same) ((Reps.append ra rb).mono (Stp.new hp))) h
/-- xs[lo:hi] of any list -/
theorem we_slM {tl th : TO} (h : We W E te r m fun d m1 => ∃ xs, LstM d m1 xs ∧ Wo W E tl r m1 fun lo m2 => LstM d m2 xs ∧ Wo W E th r m2 fun hi m3 => LstM d m3 xs ∧ K (.lst (cutD xs lo hi)) m3) : We W E (tSl (rSlL G.K) te tl th) r m K := fun s H Q e z g =>
  h s H _ e z fun d m1 v H1 s1 mu1 r1 ⟨xs, l1, q⟩ => by
    refine q s H1 _ (e.step s1 mu1) (z.step s1) fun lo m2 H2 s2 mu2 ⟨l2, q2⟩ => ?_
    refine q2 s H2 _ ((e.step s1 mu1).step s2 mu2) ((z.step s1).step s2) fun hi m3 H3 s3 mu3 ⟨l3, k⟩ => ?_
    obtain ⟨a, vs, rfl, hh, rs⟩ := l3.rd mu3 ((r1.mono s2).mono s3)
    exact ⟨_, _, rfl, rd_l hh, fun p hp => g _ m3 _ _ (((s1.trans s2).trans s3).trans (Stp.new hp)) (mu3.new hp) (.lst (new_notin mu3 hp) (.inl upd_same) ((rs.cut lo hi).mono (Stp.new hp))) k⟩
end
end DL
set_option Elab.async false
set_option linter.all false
set_option maxRecDepth 100000
/-! DL29: texts; str and int of many digits; class methods, a class in a variable. -/
namespace DL
open PySem PySem.Spec L2
open PyProof.Rows hiding St
/-! ### the digits' limit is Python's own -/
structure NoDig (K : PySem.W.Frag) : Prop where
  no : PySem.W.nsIn K cStatics "sys.int_max_str_digits" = some none
theorem NoDig.inv {X : Cx} (n : NoDig X.K) {pins : List (Addr × Obj)} {σ : L2.St} {H : Hp} {s : Shared} (I : Inv X pins σ H s) : s.heap.NoDigits := by
  obtain ⟨mc, hns, _⟩ := I.nolimit
  exact ⟨mc, hns, PySem.W.ns_none_of I.kIn hns n.no⟩
/-- a number of at most k digits -/
structure Dg (k : Nat) (i : Int) : Prop where
  lt : i.natAbs < 10 ^ k
theorem Dg.mono {j k : Nat} {i : Int} (h : Dg j i) (hk : j ≤ k) : Dg k i := ⟨Nat.lt_of_lt_of_le h.lt (Nat.pow_le_pow_right (by decide) hk)⟩
theorem Dg.neg {k : Nat} {i : Int} (h : Dg k i) : Dg k (-i) := ⟨by rw [Int.natAbs_neg]; exact h.lt⟩
theorem Dg.mul {j k : Nat} {a b : Int} (ha : Dg j a) (hb : Dg k b) : Dg (j + k) (a * b) := ⟨by
  rw [Int.natAbs_mul, Nat.pow_add]
  exact Nat.mul_lt_mul_of_lt_of_le ha.lt (Nat.le_of_lt hb.lt) (Nat.pow_pos (by decide))⟩
theorem Dg.succ {k : Nat} {a : Int} (ha : Dg k a) : Dg (k + 1) (a + 1) := ⟨by
  have h := ha.lt
  have p : 0 < 10 ^ k := Nat.pow_pos (by decide)
  rw [Nat.pow_succ]
  generalize 10 ^ k = P at *
  omega⟩
section
variable {X : Cx}
theorem call_strL (nd : NoDig X.K) (hc : X.calm = true) : CallR X (.type "str") (fun xs H Q => ∃ i k, xs = [.int i] ∧ k ≤ 4300 ∧ Dg k i ∧ Q (.str (toString i)) H) := by
  intro pins s σ H xs us Q I r h
  obtain ⟨i, k, rfl, hk, hd, q⟩ := h
  obtain ⟨u, rfl, t, rfl⟩ := vals1 r
  have hl := (hd.mono hk).lt
  exact PyProof.Rows.str_of_int_or (I.ok.hd hc) (nd.inv I) (fun _ => ⟨.str _, H, I.tok _, ⟨_, rfl⟩, q⟩) (fun h2 => absurd hl (Nat.not_lt.mpr h2))
end
/-! ### int(text), up to 4300 signs -/
theorem wp_maxd {M : Model} {A : Around} {E : Value → Shared → Prop} {s : Shared} {Q : Nat → Shared → Prop} (hd : s.heap.NoDigits) (h : Q 4300 s) : wpAny M A Builtin.intMaxStrDigits Q E s := by
  obtain ⟨mc, hns, hnone⟩ := hd
  unfold Builtin.intMaxStrDigits
  refine wpAny_bind (wpAny_nsGet hns ?_)
  rw [hnone]
  exact wpAny_pure h
theorem wp_textB {M : Model} {A : Around} {E : Value → Shared → Prop} {s : Shared} {Q : Value → Shared → Prop} {v : Value} {text : List Nat} {n : Int} (hd : s.heap.NoDigits)
    (hs : ¬ (text.takeWhile (· != 0)).length ≤ 640) (hr : (int_private% "readNumeral") 4300 10 (text.takeWhile (· != 0)) = (int_private% "Numeral.value") n)
    (ha : ((text.takeWhile (· != 0)).length == text.length) = true) (h : Q (.int n s.toks) { s with toks := s.toks + 1 }) :
    wpAny M A ((int_private% "intFromText") v text 10) Q E s := by
  obtain ⟨hp, g, d, tk, os⟩ := s
  repeat (any_goals (first
    | assumption
    | (with_reducible refine wpAny_ite_false (decide_eq_false hs) ?_)
    | (with_reducible refine wpAny_ite_true (decide_eq_true ha) ?_)
    | ((with_reducible show wpAny _ _ Builtin.intMaxStrDigits _ _ _); refine wp_maxd hd ?_)
    | wp_step))
  all_goals (try rw [hr])
  all_goals (try dsimp only)
  repeat (any_goals (first
    | assumption
    | (with_reducible refine wpAny_ite_true (decide_eq_true ha) ?_)
    | wp_step))
theorem wp_textA {M : Model} {A : Around} {E : Value → Shared → Prop} {s : Shared} {Q : Value → Shared → Prop} {v : Value} {x : PySem.Str} {n : Int} (hd : s.heap.NoDigits)
    (hl : x.length ≤ 4300) (hn : PySem.intText? x = some n) (h : Q (.int n s.toks) { s with toks := s.toks + 1 }) :
    wpAny M A ((int_private% "intFromText") v (numTextOf x) 10) Q E s := by
  by_cases hs : (numSeenOf x).length ≤ 640
  · rcases read0 x hs with ⟨m, h1, h2, h3⟩ | ⟨h1, _⟩
    · rw [hn] at h1
      injection h1 with h1
      subst h1
      exact PySem.W.KIN.wp_text hs h3 h2 h
    · rw [hn] at h1
      cases h1
  · rcases read4300 x (Nat.le_trans hl (by decide)) with ⟨m, h1, h2, h3⟩ | ⟨h1, _⟩
    · rw [hn] at h1
      injection h1 with h1
      subst h1
      have hs' : ¬ ((numTextOf x).takeWhile (· != 0)).length ≤ 640 := hs
      have ha : (((numTextOf x).takeWhile (· != 0)).length == (numTextOf x).length) = true := h2
      have hr : (int_private% "readNumeral") 4300 10 ((numTextOf x).takeWhile (· != 0)) = (int_private% "Numeral.value") n := h3
      exact wp_textB hd hs' hr ha h
    · rw [hn] at h1
      cases h1
structure HidT (p : Prop) : Prop where
  out : p
set_option maxHeartbeats 4000000 in
theorem meets_text {x : PySem.Str} {u : Tok} {n : Int} (hl : x.length ≤ 4300) (hn : PySem.intText? x = some n) :
    Meets (Builtin.«int.__new__» ⟨[.type "int", .str x u], []⟩) (fun _ R s => s.heap.NoDigits ∧ R (.ok (.ret (.int n s.toks))) { s with toks := s.toks + 1 }) :=
  .of_wp fun prog w A R s h => by
    obtain ⟨hd, h⟩ := h
    obtain ⟨hp, g, d, tk, os⟩ := s
    have f1 := F.conv_sub_int
    have f2 := F.madeHere_int
    have f3 := PySem.W.KIN.str_int
    have f4 := PySem.W.KIN.str_idx
    have f5 := PySem.W.KIN.str_trunc
    have f6 : typeOf (.str x u) = pure (.type "str") := rfl
    have hk := HidT.mk (And.intro hl hn)
    have hdd := HidT.mk hd
    clear hl hn hd
    repeat (any_goals (first
      | assumption
      | ((with_reducible show wpAny _ _ ((int_private% "intFromText") _ _ _) _ _ _); refine wp_textA (x := x) hdd.out hk.out.1 hk.out.2 ?_)
      | wp_step))
    all_goals first | exact h | exact ⟨_, rfl, h⟩ | skip
section
variable {X : Cx}
theorem call_intL (nd : NoDig X.K) : CallR X (.type "int") (fun xs H Q => ∃ a n, xs = [.str a] ∧ PySem.intText? a = some n ∧ a.length ≤ 4300 ∧ Q (.int n) H) := by
  intro pins s σ H xs us Q I r h
  obtain ⟨a, n, rfl, hn, hl, q⟩ := h
  obtain ⟨u, rfl, t, rfl⟩ := vals1 r
  exact call_int_1 (meets_text hl hn) ⟨nd.inv I, rfl, .int n, H, I.tok _, ⟨_, rfl⟩, q⟩
/-! ### a text, n times -/
theorem op_repS : OpR X (binaryOp .Mult) (fun x y H Q => ∃ (a : List Nat) (n : Nat), x = .str (SX.S a) ∧ y = .int (n : Int) ∧ a ≠ [] ∧ 2 ≤ n ∧ a.length * n ≤ 1000000 ∧ Q (.str (SX.S (List.replicate n a).flatten)) H) := by
  intro pins s σ H x y v u Q I rx ry h
  obtain ⟨a, n, rfl, rfl, ha, hn, hs, q⟩ := h
  obtain ⟨t, rfl⟩ := rx
  obtain ⟨t', rfl⟩ := ry
  have hp : 0 < a.length := List.length_pos_iff.mpr ha
  have hn2 : n ≤ a.length * n := Nat.le_mul_of_pos_left n hp
  have el : (SX.S a).length = a.length := SX.S_len a
  have e2 : ∀ (k : Nat) (acc : Array Nat), (List.replicate k a.toArray).foldl (· ++ ·) acc = (acc.toList ++ (List.replicate k a).flatten).toArray := by
    intro k
    induction k with
    | zero => intro acc; simp
    | succ k ih =>
      intro acc
      rw [List.replicate_succ, List.foldl_cons, ih, List.replicate_succ, List.flatten_cons]
      simp
  refine P.mul_str ?_ (fun _ _ => ?_) (fun _ _ => ?_) ?_
  · rw [decide_eq_false (show ¬ (n : Int) < -(2 ^ 63) by omega), decide_eq_false (show ¬ (n : Int) ≥ 2 ^ 63 by omega)]
    rfl
  · rw [el]
    refine Int.not_lt.mpr ((Int.le_ediv_iff_mul_le (by omega)).mpr ?_)
    have : ((a.length : Int) * (n : Int)) = ((a.length * n : Nat) : Int) := (Int.natCast_mul _ _).symm
    omega
  · rw [el, Int.toNat_natCast]
    have : ∀ k : Nat, k ≤ 1000000 → Builtin.Str.tooLong k = false := fun k hk => by
      unfold Builtin.Str.tooLong
      have := sizeLine_eq
      simp
      omega
    exact this _ hs
  · rw [if_neg (show ¬ (n : Int) < 1 by omega), if_neg (show ¬ (((n : Int) == 1 || (SX.S a).length == 0) = true) by
      rw [el]
      simp only [Bool.or_eq_true, beq_iff_eq, not_or]
      omega), Int.toNat_natCast]
    have e3 : (⟨(List.replicate n (SX.S a).cps).foldl (· ++ ·) #[]⟩ : Str) = SX.S (List.replicate n a).flatten := by
      show (⟨(List.replicate n a.toArray).foldl (· ++ ·) #[]⟩ : Str) = _
      rw [e2]
      rfl
    rw [e3]
    refine ⟨?_, .str _, H, I.tok _, ⟨_, rfl⟩, q⟩
    rw [SX.S_len, List.length_flatten, List.map_replicate, List.sum_replicate_nat, Nat.mul_comm]
    exact Nat.le_trans hs (by decide)
end
end DL
set_option Elab.async false
set_option linter.all false
set_option maxRecDepth 100000
/-! DL30: what the steps on texts do to trees. -/
namespace DL
open PySem PySem.Spec L2
open PyProof.Rows hiding St
open SX (S)
/-- a text by its signs -/
abbrev ts (l : List Nat) : D := .str (S l)
/-- a whole number's signs -/
def numS (i : Int) : List Nat := if 0 ≤ i then TL.numL i.toNat else 45 :: TL.numL (-i).toNat
theorem numS_str (i : Int) : (Str.ofString (toString i) : Str) = S (numS i) := by
  unfold numS
  by_cases h : 0 ≤ i
  · rw [if_pos h]
    obtain ⟨n, rfl⟩ := Int.eq_ofNat_of_zero_le h
    exact SX.num_S n
  · rw [if_neg h]
    obtain ⟨n, hn⟩ := Int.eq_ofNat_of_zero_le (show 0 ≤ -i - 1 by omega)
    obtain rfl : i = Int.negSucc n := by omega
    have e : (-(Int.negSucc n)).toNat = n + 1 := by omega
    rw [e]
    refine TL.ext_tl ?_
    have a := TL.tl_num (n + 1)
    rw [TL.tl_ofString] at a ⊢
    show (("-" : String) ++ Nat.repr (n + 1)).toList.map Char.toNat = 45 :: TL.numL (n + 1)
    rw [← a, String.toList_append]
    rfl
section
variable {X : Cx} {W : WX} {E : ET} {r : Rho} {m : Mu} {K : KT} {G : Gx} {j k : Nat} {te to : TE} {e o : Expr} {pos p : Pos} {n : Nat} {C : Addr} {SS : SpecD} {dd : List D} {t : TA} {es : List Expr} {x mt : Str} {i : Nat} {apos : Pos}
theorem pe_strS {x : Str} {jj pp} {l : List Nat} (e : x = S l) : PE X (.Constant (.str x) jj pp) (tC (.str (S l))) := by
  rw [← e]
  exact pe_str
/-! ### calls -/
def cStrL : OC := fun xs _ H Q => ∃ i k, xs = [.int i] ∧ k ≤ 4300 ∧ Dg k i ∧ Q (.str (toString i)) H
theorem cs_strL (nd : NoDig X.K) (hc : X.calm = true) : CallS X (.type "str") cStrL := CallS.of (call_strL nd hc)
theorem wc_strL {i : Int} {k : Nat} (hd : Dg k i) (hk : k ≤ 4300) (h : K (ts (numS i)) m) : Wc W E cStrL [.int i] r m K := fun s H Q vs e z rs g => by
  cases rs with
  | cons a tt =>
    cases tt
    cases a
    exact ⟨i, k, rfl, hk, hd, by
      have q := g _ m _ H (Stp.refl _ _) e.mu (.str _) h
      rw [← numS_str] at q
      exact q⟩
def cIntL : OC := fun xs s H Q => cInt xs s H Q ∨ ∃ a n, xs = [.str a] ∧ PySem.intText? a = some n ∧ a.length ≤ 4300 ∧ Q (.int n) H
theorem cs_intL (nd : NoDig X.K) : CallS X (.type "int") cIntL := cs_int.or (CallS.of (call_intL nd))
theorem wc_intLI {i : Int} (h : K (.int i) m) : Wc W E cIntL [.int i] r m K := fun s H Q vs e z rs g => .inl (wc_int h s H Q vs e z rs g)
theorem wc_intLT {l : List Nat} {n : Int} (hl : l.length ≤ 4300) (hn : PySem.intText? (S l) = some n) (h : K (.int n) m) : Wc W E cIntL [ts l] r m K := fun s H Q vs e z rs g => by
  cases rs with
  | cons a tt =>
    cases tt
    cases a
    exact .inr ⟨S l, n, rfl, hn, by rw [SX.S_len]; exact hl, g _ m _ H (Stp.refl _ _) e.mu (.int _) h⟩
theorem wc_lenS {l : List Nat} (hl : l.length ≤ 1000000) (h : K (.int (l.length : Nat)) m) : Wc W E (cLen G) [ts l] r m K := fun s H Q vs e z rs g => by
  cases rs with
  | cons a t =>
    cases t
    cases a
    exact ⟨_, l.length, rfl, ⟨by rw [SX.S_len]; exact Nat.le_trans hl (by decide), (SX.S_len l).symm⟩, g _ m _ H (Stp.refl _ _) e.mu (.int _) h⟩
/-! ### operators -/
def oMulS : O2 := fun x y _ H Q => ∃ (a : List Nat) (n : Nat), x = .str (S a) ∧ y = .int (n : Int) ∧ a ≠ [] ∧ 2 ≤ n ∧ a.length * n ≤ 1000000 ∧ Q (.str (S (List.replicate n a).flatten)) H
theorem os_mulS : OpS X (binaryOp .Mult) oMulS := OpS.of op_repS
theorem w2_mulS {l : List Nat} {i : Int} (n : Nat) (ei : i = (n : Int)) (ha : l ≠ []) (hn : 2 ≤ n) (hs : l.length * n ≤ 1000000) (h : K (ts (List.replicate n l).flatten) m) : W2 W E oMulS (ts l) (.int i) r m K :=
  w2_val (fun _ _ _ => rstr) (fun _ _ _ => rint) (fun _ _ => .str _) (fun _ _ _ q => ⟨l, n, rfl, by rw [ei], ha, hn, hs, q⟩) h
def oNinS : O2 := fun x y _ H Q => ∃ (c : Nat) (z : Str), x = .str ⟨#[c]⟩ ∧ y = .str z ∧ Q (.bl (!decide (c ∈ z.cps.toList))) H
theorem os_ninS : OpS X (compareOp .NotIn) oNinS := OpS.of op_notIn_sign
theorem w2_ninS {c : Nat} {l : List Nat} (h : K (.bl (!decide (c ∈ l))) m) : W2 W E oNinS (ts [c]) (ts l) r m K :=
  w2_val (fun _ _ _ => rstr) (fun _ _ _ => rstr) (fun _ _ => .bl _) (fun _ _ _ q => ⟨c, S l, rfl, rfl, q⟩) h
theorem dec_ts {a b : List Nat} : decide ((V.str (S a)) = .str (S b)) = decide (a = b) := by
  by_cases h : a = b
  · subst h
    simp
  · rw [decide_eq_false h, decide_eq_false]
    intro z
    injection z with z
    exact h (SX.S_inj z)
theorem w2_addS {a b : List Nat} (hl : a.length + b.length ≤ 1000000) (h : K (ts (a ++ b)) m) : W2 W E (oAdd G j W) (ts a) (ts b) r m K :=
  w2_addStr (by rw [SX.S_len, SX.S_len]; exact Nat.le_trans hl (by decide)) (by rw [SX.S_cat]; exact h)
theorem w2_eqS {a b : List Nat} (h : K (.bl (decide (a = b))) m) : W2 W E (oEqF G j W) (ts a) (ts b) r m K :=
  w2_val (fun _ _ _ => rstr) (fun _ _ _ => rstr) (fun _ _ => .bl _) (fun _ _ _ q => .inl ⟨rfl, by rw [dec_ts]; exact q⟩) h
theorem w2_neS {a b : List Nat} (h : K (.bl (!decide (a = b))) m) : W2 W E (oNeF G j W) (ts a) (ts b) r m K :=
  w2_val (fun _ _ _ => rstr) (fun _ _ _ => rstr) (fun _ _ => .bl _) (fun _ _ _ q => .inl ⟨rfl, by rw [dec_ts]; exact q⟩) h
theorem w2_eqHS {a b : List Nat} (h : K (.bl (decide (a = b))) m) : W2 W E (oEqHF G) (ts a) (ts b) r m K :=
  w2_val (fun _ _ _ => rstr) (fun _ _ _ => rstr) (fun _ _ => .bl _) (fun _ _ _ q => .inl ⟨rfl, by rw [dec_ts]; exact q⟩) h
theorem w2_ixS {l : List Nat} {i : Int} {c : Nat} (hl : l.length ≤ 1000000) (hc : atI l i = some c) (h : K (ts [c]) m) : W2 W E (oIx G) (ts l) (.int i) r m K :=
  w2_val (fun _ _ _ => rstr) (fun _ _ _ => rint) (fun _ _ => .str _) (fun _ _ _ q => .inr (.inr ⟨S l, i, c, rfl, rfl, by rw [SX.S_len]; exact Nat.le_trans hl (by decide), hc, q⟩)) h
theorem kit_ss {K : PySem.W.Frag} : PySem.W.kitOne K (.type "str") (.type "str") = some true := kit_ty (by decide +kernel)
/-! ### slices -/
theorem cutS_pre {l : List Nat} (i : Int) (h : 0 ≤ i) : cutS (S l) none (some i) = S (l.take i.toNat) := (sliceText_cut _ _ _).symm.trans (SX.slice_to h)
theorem cutS_suf {l : List Nat} (i : Int) (h : 0 ≤ i) : cutS (S l) (some i) none = S (l.drop i.toNat) := (sliceText_cut _ _ _).symm.trans (SX.slice_from h)
theorem we_slX {tl th : TO} (h : We W E te r m fun d m1 => ∃ l : List Nat, d = ts l ∧ l.length ≤ 1000000 ∧ Wo W E tl r m1 fun lo m2 => Wo W E th r m2 fun hi m3 => K (.str (cutS (S l) lo hi)) m3) : We W E (tSl rSlS te tl th) r m K := fun s H Q e z g =>
  h s H _ e z fun d m1 v H1 s1 mu1 r1 ⟨l, ed, hl, q⟩ => by
    subst ed
    cases r1
    refine q s H1 _ (e.step s1 mu1) (z.step s1) fun lo m2 H2 s2 mu2 q2 => ?_
    refine q2 s H2 _ ((e.step s1 mu1).step s2 mu2) ((z.step s1).step s2) fun hi m3 H3 s3 mu3 k => ?_
    exact ⟨S l, rfl, by rw [SX.S_len]; exact Nat.le_trans hl (by decide), g _ m3 _ H3 ((s1.trans s2).trans s3) mu3 (.str _) k⟩
theorem we_slXp (h : We W E te r m fun d m1 => ∃ l : List Nat, d = ts l ∧ l.length ≤ 1000000 ∧ We W E to r m1 fun d2 m2 => ∃ i : Int, d2 = .int i ∧ 0 ≤ i ∧ K (ts (l.take i.toNat)) m2) : We W E (tSl rSlS te tNoPart (tPart to)) r m K :=
  we_slX (h.imp fun d m1 ⟨l, ed, hl, q⟩ => ⟨l, ed, hl, wo_none (wo_some (q.imp fun d2 m2 ⟨i, e2, h0, k⟩ => ⟨i, e2, by rw [cutS_pre i h0]; exact k⟩))⟩)
theorem we_slXs (h : We W E te r m fun d m1 => ∃ l : List Nat, d = ts l ∧ l.length ≤ 1000000 ∧ We W E to r m1 fun d2 m2 => ∃ i : Int, d2 = .int i ∧ 0 ≤ i ∧ K (ts (l.drop i.toNat)) m2) : We W E (tSl rSlS te (tPart to) tNoPart) r m K :=
  we_slX (h.imp fun d m1 ⟨l, ed, hl, q⟩ => ⟨l, ed, hl, wo_some (q.imp fun d2 m2 ⟨i, e2, h0, k⟩ => ⟨i, e2, wo_none (by rw [cutS_suf i h0]; exact k)⟩)⟩)
/-! ### methods -/
def rStw : V → List V → Hp → VK → Prop := fun x xs H Q => ∃ a b, x = .str a ∧ xs = [.str b] ∧ Q (.bl (Txt.startswith a b)) H
theorem pe_stw {apos pos : Pos} (ho : PE X o to) (he : PE X e te) (hs : starEach [e] X.env = [(false, eval e X.env)] := by rfl) (hbase : attributeBase o "startswith" X.env (eval o X.env) = eval o X.env := by rfl) (hline : (apos.endLine == pos.line) = true := by rfl) :
    PE X (.Call (.Attribute o "startswith" apos) [e] [] pos) (tM1 rStw to te) :=
  pe_m1 PySem.F.slot_str_startswith PySem.F.type_str_startswith mt_startswith ho he hs hbase hline
theorem starts_S (c : Nat) (l : List Nat) : Txt.startswith (S l) (S [c]) = decide (l.head? = some c) := by
  unfold PySem.Txt.startswith
  rw [StrLaws.subAt_eq, SX.S_len, SX.S_len]
  cases l with
  | nil => simp
  | cons d l =>
    simp
    by_cases h : d = c <;> simp [h]
theorem we_stw (h : We W E to r m fun d m1 => ∃ l : List Nat, d = ts l ∧ We W E te r m1 fun d2 m2 => ∃ c : Nat, d2 = ts [c] ∧ K (.bl (decide (l.head? = some c))) m2) : We W E (tM1 rStw to te) r m K := fun s H Q e z g =>
  h s H _ e z fun d m1 v H1 s1 mu1 r1 ⟨l, ed, q⟩ => by
    subst ed
    cases r1
    refine ⟨⟨_, rfl⟩, q s H1 _ (e.step s1 mu1) (z.step s1) fun d2 m2 v2 H2 s2 mu2 r2 ⟨c, e2, k⟩ => ?_⟩
    subst e2
    cases r2
    exact ⟨S l, S [c], rfl, rfl, by rw [starts_S]; exact g _ m2 _ H2 (s1.trans s2) mu2 (.bl _) k⟩
def rPrt : V → List V → Hp → VK → Prop := fun x xs H Q => ∃ a b, x = .str a ∧ xs = [.str b] ∧ (b.length == 0) = false ∧ a.length ≤ sizeLine ∧
  ∀ p, H p = none → Q (.ref p) (upd H p (.tup [.str (Txt.partition a b).1, .str (Txt.partition a b).2.1, .str (Txt.partition a b).2.2]))
theorem pe_prt {apos pos : Pos} (ho : PE X o to) (he : PE X e te) (hs : starEach [e] X.env = [(false, eval e X.env)] := by rfl) (hbase : attributeBase o "partition" X.env (eval o X.env) = eval o X.env := by rfl) (hline : (apos.endLine == pos.line) = true := by rfl) :
    PE X (.Call (.Attribute o "partition" apos) [e] [] pos) (tM1 rPrt to te) := pe_partition ho he hs hbase hline
/-- what stands ahead of the first c, whether there is one, what stands behind -/
def cutAt (c : Nat) : List Nat → List Nat × List Nat × List Nat
  | [] => ([], [], [])
  | d :: l => if d = c then ([], [c], l) else (d :: (cutAt c l).1, (cutAt c l).2.1, (cutAt c l).2.2)
theorem par_cut (c : Nat) : ∀ (l acc : List Nat), c ∈ l → TL.par [c] acc l = some (acc ++ (cutAt c l).1, (cutAt c l).2.2) ∧ (cutAt c l).2.1 = [c]
  | [], acc, h => by simp at h
  | d :: l, acc, h => by
    by_cases e : d = c
    · subst e
      rw [TL.par_hit (by simp [TL.pre])]
      simp [cutAt]
    · have h' : c ∈ l := by
        rcases List.mem_cons.mp h with z | z
        · exact absurd z.symm e
        · exact z
      have ih := par_cut c l (acc ++ [d]) h'
      rw [TL.par_miss (by simp [TL.pre, e]), ih.1]
      simp [cutAt, e, ih.2]
theorem cut_none (c : Nat) : ∀ l : List Nat, c ∉ l → cutAt c l = (l, [], [])
  | [], _ => rfl
  | d :: l, h => by
    have e : d ≠ c := fun z => h (by rw [z]; exact List.mem_cons_self)
    have h' : c ∉ l := fun z => h (List.mem_cons_of_mem _ z)
    have ih := cut_none c l h'
    simp [cutAt, e, ih]
theorem partition_S (c : Nat) (l : List Nat) : Txt.partition (S l) (S [c]) = (S (cutAt c l).1, S (cutAt c l).2.1, S (cutAt c l).2.2) := by
  by_cases h : c ∈ l
  · have p := par_cut c l [] h
    rw [p.2]
    exact SX.partition_some (by simp) p.1
  · rw [cut_none c l h]
    exact SX.partition_none (by simp) (TL.par_none1 h)
theorem we_prt (h : We W E to r m fun d m1 => ∃ l : List Nat, d = ts l ∧ l.length ≤ 1000000 ∧ We W E te r m1 fun d2 m2 => ∃ c : Nat, d2 = ts [c] ∧ K (.tup [ts (cutAt c l).1, ts (cutAt c l).2.1, ts (cutAt c l).2.2]) m2) : We W E (tM1 rPrt to te) r m K := fun s H Q e z g =>
  h s H _ e z fun d m1 v H1 s1 mu1 r1 ⟨l, ed, hl, q⟩ => by
    subst ed
    cases r1
    refine ⟨⟨_, rfl⟩, q s H1 _ (e.step s1 mu1) (z.step s1) fun d2 m2 v2 H2 s2 mu2 r2 ⟨c, e2, k⟩ => ?_⟩
    subst e2
    cases r2
    refine ⟨S l, S [c], rfl, rfl, by rw [SX.S_len]; rfl, by rw [SX.S_len]; exact Nat.le_trans hl (by decide), fun p hp => ?_⟩
    rw [partition_S]
    exact g _ m2 _ _ ((s1.trans s2).trans (Stp.new hp)) (mu2.new hp) (.tup (new_notin mu2 hp) (.inl upd_same) (.cons (.str _) (.cons (.str _) (.cons (.str _) .nil)))) k
/-! ### a for over a text's signs -/
theorem wi_str {KI : List D → List Addr → Mu → Prop} (h : We W E te r m fun d m1 => ∃ l : List Nat, d = ts l ∧ KI (l.map fun c => ts [c]) [] m1) : Wi W E (iStr te) r m KI := fun s H R e z g =>
  h s H _ e z fun d m1 v H1 s1 mu1 r1 ⟨l, ed, k⟩ => by
    subst ed
    cases r1
    refine ⟨S l, rfl, g _ _ _ m1 H1 s1 mu1 ⟨fun i m' H' st mu' sb hi => ?_, fun i m' H' st mu' sb v H2 y hi => ?_, fun m' H' st mu' sb => ?_⟩ k⟩
    · rw [List.length_map] at hi
      show i < l.toArray.size
      simpa using hi
    · obtain ⟨rfl, c, hc, rfl⟩ := y
      refine ⟨ts [c], ?_, Stp.refl _ _, mu', .str _⟩
      have hc' : l[i]? = some c := by simpa using hc
      rw [List.getElem?_map, hc']
      rfl
    · show l.toArray.size ≤ _
      simp
/-! ### a class in a variable, called; class methods -/
def tMkV (i : Nat) (C : Addr) (n : Nat) (SS : SpecD) (dd : List D) (W : WX) (t : TA) : TE := fun σ H Q => σ[i]? = some (some (.ref C)) ∧ tMk C n SS dd W t σ H Q
theorem pe_makV {y : Str} (c : Mak (Gx.of X) k x C n SS dd) (hr : Room j X.A) (hk : k + 1 ≤ j) (tk : L2N.Takes X W) (hN : X.N[i]? = some y) (hv : Vis X.env.scope y) (hd : (y == ("__debug__" : Str)) = false) (hcd : (y == ("__classdict__" : Str)) = false) (ha : PA X (e :: es) t)
    (he : starEach (e :: es) X.env = (false, eval e X.env) :: starEach es X.env := by rfl) (hpl : (backTo pos (starEach es X.env)).any (·.1) = false := by rfl) :
    PE X (.Call (.Name y p) (e :: es) [] pos) (tMkV i C n SS dd W t) := by
  obtain ⟨f, ⟨⟨fd, ps, ds, F, b, d⟩, cs⟩, M⟩ := c.ex
  refine ⟨fun pins s σ H Q I h => ?_⟩
  obtain ⟨hs, h⟩ := h
  refine wpAny_Call_Name_kw (thn ((pe_var (pos := p) hN hv hd hcd).run pins s σ H (fun v H1 => v = .ref C ∧ H1 = H) I ⟨.ref C, hs, rfl, rfl⟩) fun u s1 ⟨v, H1, I1, r1, q1⟩ => ?_)
  obtain ⟨rfl, rfl⟩ := q1
  cases r1
  refine PySem.W.callWith_K (h₀ := X.base) I.ok.mod.kin M.kp (thn (ha.run pos pins s1 σ _ _ I1 h) fun us s2 ⟨vs, H2, I2, r, q⟩ => ⟨I2.kIn, ?_⟩) he hpl
  exact run_makeS (E := WE W) M F (hr.mono hk) b d (L2N.passAt tk σ) I2 r q
theorem we_mkV (h1 : r[i]? = some (some (.ref C))) (h : We W E (tMk C n SS dd W t) r m K) : We W E (tMkV i C n SS dd W t) r m K := fun s H Q e z g => by
  obtain ⟨v, h2, h3⟩ := e.env.get h1
  cases h3
  exact ⟨h2, h s H Q e z g⟩
/-- a class method mt of the class at C -/
structure Cme (G : Gx) (k : Nat) (C : Addr) (mt : Str) (n : Nat) (SS : SpecD) : Prop where
  ex : ∃ (f p : Addr), Fnx G k f n SS [] ∧ ClX.CRead G.K C (.type "type") ∧ ClX.CMet G.K C (.type "type") mt p f
def tCm (C : Addr) (n : Nat) (SS : SpecD) (W : WX) (to : TE) (t : TA) : TE := fun σ H Q => to σ H fun x H1 => x = .ref C ∧ t σ H1 fun vs H2 => spD n SS (.ref C :: vs) H2 Q (WE W σ)
theorem pe_cme {pl : Sem Bool} (c : Cme (Gx.of X) k C mt n SS) (hr : Room j X.A) (hk : k ≤ j) (tk : L2N.Takes X W) (he : PE X o to) (ha : PA X (e :: es) t)
    (hst : starEach (e :: es) X.env = (false, eval e X.env) :: starEach es X.env := by rfl) (hpl : (backTo pos (starEach es X.env)).any (·.1) = false := by rfl)
    (ht : eval (.Call (.Attribute o mt apos) (e :: es) [] pos) X.env = (do
      let ov ← eval o X.env
      standAt apos.atName
      let (f, first) ← holding [ov] (getMethod ov mt pl)
      callWith pos f first (backTo pos (starEach (e :: es) X.env)) (backToKw pos (keywordEach [] X.env))) := by rfl) :
    PE X (.Call (.Attribute o mt apos) (e :: es) [] pos) (tCm C n SS W to t) := by
  obtain ⟨f, q, ⟨⟨fd, ps, ds, F, b, d⟩, cs⟩, rd, cm⟩ := c.ex
  refine ⟨fun pins s σ H Q I h => ?_⟩
  refine PySem.W.methodCall_KW (pl := pl) (thn (he.run pins s σ H _ I h) fun u s1 ⟨x, H1, I1, rx, ex, q⟩ => ?_) ht
  subst ex
  obtain rfl : u = Value.ref C := rx
  refine ClX.getmethcm_ok I1 rd cm fun s2 I2 => ?_
  refine ClX.callwith_cm I2 (ClX.base_none I1 (Nat.le_refl _)) cm.fi (thn (ha.run pos _ s2 σ H1 _ I2 q) fun us s3 ⟨vs, H2, I3, rv, q2⟩ => ⟨⟨ClX.pin_at I3, I3.kIn⟩, ?_⟩) hst hpl
  have hd := F.raw b d
  have z := codeAny_mono (hd X.A X.stack s3 H2 (.ref C :: us) (.ref C :: vs) Q (WE W σ) (hr.mono hk) I3.env0 (.cons rfl rv) (by
    show spD n SS ((V.ref C :: vs) ++ []) H2 Q (WE W σ)
    rw [List.append_nil]
    exact q2)) (R' := fun r s' => match r with | .ok (.ret v) => EP X _ σ Q v s' | .ok _ => False | .error e => X.xe e s') fun r s' hq => by
    cases r with
    | error e => exact L2N.passAt tk σ _ H2 s3 e s' I3 hq
    | ok fl =>
      cases fl with
      | ret u => exact I3.after hq
      | next => exact False.elim hq
      | brk => exact False.elim hq
      | cont => exact False.elim hq
  have y : wpAny (model X.prog X.w) X.A (call (.ref _) us) (EP X _ σ Q) X.xe s3 := wpAny_call (PySem.W.method_call (ClX.pin_at I3) z)
  exact thn y fun _ _ y => ClX.unpinE y
theorem we_cme (h : We W E to r m fun d m1 => d = .ref C ∧ Wa W E t r m1 fun ds m2 => ds.length + 1 = n ∧ SS (.ref C :: ds) m2 K fun x m' => E x r m') : We W E (tCm C n SS W to t) r m K := fun s H Q e z g =>
  h s H _ e z fun d m1 v H1 st mu rd ⟨ed, q⟩ => by
    subst ed
    cases rd
    refine ⟨rfl, ?_⟩
    refine q s H1 _ (e.step st mu) (z.step st) fun ds m2 vs H2 st2 mu2 rs q2 => ?_
    exact spD_of (ds := .ref C :: ds) (by rw [List.length_cons]; exact q2.1) ((e.step st mu).step st2 mu2) ((z.step st).step st2) ((g.step st).step st2) (.cons (.ref C) rs) q2.2 fun _ _ q => q
end
end DL
set_option Elab.async false
set_option linter.all false
set_option maxRecDepth 100000
/-! M03: what a fraction's text is, and which texts are none. -/
namespace DL
open PySem PySem.Spec L2
open PyProof.Rows hiding St
open SX (S)
open PySem.NumText (AllDigits digitsVal)
abbrev DIG : List Nat := [48, 49, 50, 51, 52, 53, 54, 55, 56, 57]
theorem dig_iff {c : Nat} : c ∈ DIG ↔ 48 ≤ c ∧ c ≤ 57 := by
  simp only [DIG, List.mem_cons, List.not_mem_nil, or_false]
  omega
/-! ### numbers and their digits -/
theorem head_app {l r : List Nat} (h : l ≠ []) : (l ++ r).head? = l.head? := by
  cases l with
  | nil => exact absurd rfl h
  | cons a l => rfl
theorem numL_head : ∀ n : Nat, n ≠ 0 → (TL.numL n).head? ≠ some 48 := by
  intro n
  induction n using Nat.strongRecOn with
  | _ n ih =>
    intro hn
    by_cases h : n < 10
    · rw [TL.numL_lt h]
      simp
      omega
    · rw [TL.numL_step (by omega), head_app (TL.numL_ne _)]
      exact ih (n / 10) (by omega) (by omega)
theorem digitsVal_lt : ∀ {l : List Nat}, AllDigits l.reverse → digitsVal l.reverse < 10 ^ l.length
  | [], _ => by decide
  | c :: l, h => by
    rw [List.reverse_cons] at h ⊢
    have hc := h c (by simp)
    have h' : AllDigits l.reverse := fun d hd => h d (List.mem_append_left _ hd)
    have ih := digitsVal_lt h'
    rw [PySem.NumText.digitsVal_snoc, List.length_cons, Nat.pow_succ]
    generalize 10 ^ l.length = P at *
    omega
theorem digitsVal_bound {l : List Nat} (h : AllDigits l) : digitsVal l < 10 ^ l.length := by
  have q := digitsVal_lt (l := l.reverse) (by rw [List.reverse_reverse]; exact h)
  rw [List.reverse_reverse, List.length_reverse] at q
  exact q
theorem dg_digits {l : List Nat} (h : AllDigits l) : Dg l.length (digitsVal l : Nat) := ⟨by rw [Int.natAbs_natCast]; exact digitsVal_bound h⟩
theorem digitsVal_pos : ∀ {l : List Nat}, AllDigits l.reverse → l ≠ [] → l.reverse.head? ≠ some 48 → 0 < digitsVal l.reverse
  | [], _, h, _ => absurd rfl h
  | [c], h, _, hh => by
    have hc := h c (by simp)
    have : c ≠ 48 := fun e => hh (by rw [e]; rfl)
    show 0 < 0 * 10 + (c - 48)
    omega
  | c :: d :: l, h, _, hh => by
    rw [List.reverse_cons] at h hh ⊢
    have h' : AllDigits (d :: l).reverse := fun x hx => h x (List.mem_append_left _ hx)
    have ih := digitsVal_pos h' (by simp) (by rw [head_app (by simp)] at hh; exact hh)
    rw [PySem.NumText.digitsVal_snoc]
    omega
theorem numL_rev : ∀ {l : List Nat}, AllDigits l.reverse → l ≠ [] → l.reverse.head? ≠ some 48 → TL.numL (digitsVal l.reverse) = l.reverse
  | [], _, h, _ => absurd rfl h
  | [c], h, _, hh => by
    have hc := h c (by simp)
    show TL.numL (0 * 10 + (c - 48)) = [c]
    rw [TL.numL_lt (by omega)]
    have : 48 + (0 * 10 + (c - 48)) = c := by omega
    rw [this]
  | c :: d :: l, h, _, hh => by
    rw [List.reverse_cons] at h hh ⊢
    have hc := h c (by simp)
    have h' : AllDigits (d :: l).reverse := fun x hx => h x (List.mem_append_left _ hx)
    have hh' : (d :: l).reverse.head? ≠ some 48 := by rw [head_app (by simp)] at hh; exact hh
    have ih := numL_rev h' (by simp) hh'
    have hp := digitsVal_pos h' (by simp) hh'
    rw [PySem.NumText.digitsVal_snoc, TL.numL_step (by omega)]
    have e1 : (digitsVal (d :: l).reverse * 10 + (c - 48)) / 10 = digitsVal (d :: l).reverse := by omega
    have e2 : 48 + (digitsVal (d :: l).reverse * 10 + (c - 48)) % 10 = c := by omega
    rw [e1, e2, ih]
theorem numL_back {l : List Nat} (h : AllDigits l) (h0 : l ≠ []) (hh : l.head? ≠ some 48) : TL.numL (digitsVal l) = l ∧ 0 < digitsVal l := by
  have q := numL_rev (l := l.reverse) (by rw [List.reverse_reverse]; exact h) (by simpa using h0) (by rw [List.reverse_reverse]; exact hh)
  have p := digitsVal_pos (l := l.reverse) (by rw [List.reverse_reverse]; exact h) (by simpa using h0) (by rw [List.reverse_reverse]; exact hh)
  rw [List.reverse_reverse] at q p
  exact ⟨q, p⟩
theorem numS_nat (n : Nat) : numS (n : Int) = TL.numL n := by
  unfold numS
  rw [if_pos (by omega), Int.toNat_natCast]
theorem numS_neg {n : Nat} (h : 0 < n) : numS (-(n : Int)) = 45 :: TL.numL n := by
  unfold numS
  rw [if_neg (by omega), Int.neg_neg, Int.toNat_natCast]
theorem numS_cases (a : Int) : (0 ≤ a ∧ numS a = TL.numL a.natAbs) ∨ (a < 0 ∧ numS a = 45 :: TL.numL a.natAbs) := by
  unfold numS
  by_cases h : 0 ≤ a
  · refine .inl ⟨h, ?_⟩
    rw [if_pos h]
    congr 1
    omega
  · refine .inr ⟨by omega, ?_⟩
    rw [if_neg h]
    congr 2
    omega
theorem numS_ne (a : Int) : numS a ≠ [] := by
  rcases numS_cases a with ⟨_, e⟩ | ⟨_, e⟩ <;> rw [e]
  · exact TL.numL_ne _
  · simp
theorem numS_mem {a : Int} {c : Nat} (h : c ∈ numS a) : (48 ≤ c ∧ c ≤ 57) ∨ c = 45 := by
  rcases numS_cases a with ⟨_, e⟩ | ⟨_, e⟩ <;> rw [e] at h
  · exact .inl (TL.numL_digits _ c h)
  · rcases List.mem_cons.mp h with z | z
    · exact .inr z
    · exact .inl (TL.numL_digits _ c z)
theorem numS_no47 (a : Int) : 47 ∉ numS a := fun h => by
  have := numS_mem h
  omega
theorem numL_le {n k : Nat} (hk : 0 < k) (h : n < 10 ^ k) : (TL.numL n).length ≤ k := TL.numL_len hk h
theorem numS_len {a : Int} {k : Nat} (hk : 0 < k) (h : Dg k a) : (numS a).length ≤ k + 1 := by
  rcases numS_cases a with ⟨_, e⟩ | ⟨_, e⟩ <;> rw [e]
  · exact Nat.le_succ_of_le (numL_le hk h.lt)
  · exact Nat.succ_le_succ (numL_le hk h.lt)
theorem numS_len0 {a : Int} {k : Nat} (hk : 0 < k) (h0 : 0 ≤ a) (h : Dg k a) : (numS a).length ≤ k := by
  rcases numS_cases a with ⟨_, e⟩ | ⟨n, e⟩
  · rw [e]
    exact numL_le hk h.lt
  · omega
theorem dg_numS (a : Int) : Dg (numS a).length a := by
  have q := digitsVal_bound (TL.numL_digits a.natAbs)
  rw [TL.numL_val] at q
  rcases numS_cases a with ⟨_, e⟩ | ⟨_, e⟩ <;> rw [e]
  · exact ⟨q⟩
  · refine ⟨Nat.lt_of_lt_of_le q (Nat.pow_le_pow_right (by decide) ?_)⟩
    rw [List.length_cons]
    omega
/-! ### a whole number's text, read -/
def dgs (sg : Bool) (l : List Nat) : List Nat := if sg = true ∧ l.head? = some 45 then l.drop 1 else l
def okW (sg : Bool) (l : List Nat) : Prop := 1 ≤ (dgs sg l).length ∧ (dgs sg l).length ≤ 2000 ∧ AllDigits (dgs sg l) ∧ ((dgs sg l).head? = some 48 → l = [48])
def valW (sg : Bool) (l : List Nat) : Int := if sg = true ∧ l.head? = some 45 then -((digitsVal (l.drop 1) : Nat) : Int) else ((digitsVal l : Nat) : Int)
theorem okW_int {sg : Bool} {l : List Nat} (h : okW sg l) : PySem.intText? (S l) = some (valW sg l) ∧ l.length ≤ 4300 := by
  obtain ⟨h1, h2, h3, h4⟩ := h
  unfold dgs at h1 h2 h3 h4
  unfold valW
  by_cases c : sg = true ∧ l.head? = some 45
  · rw [if_pos c] at *
    cases l with
    | nil => simp at c
    | cons x l =>
      obtain ⟨_, e⟩ := c
      rw [List.head?_cons] at e
      injection e with e
      subst e
      rw [List.drop_one, List.tail_cons] at *
      have hl : (45 :: l).length ≤ 4300 := by
        rw [List.length_cons]
        omega
      exact ⟨PySem.intText_neg (x := S (45 :: l)) rfl h3 (by intro z; rw [z] at h1; simp at h1) (by rw [SX.S_len]; exact hl), hl⟩
  · rw [if_neg c] at *
    exact ⟨PySem.intText_digits (x := S l) h3 (by intro z; change l = [] at z; rw [z] at h1; simp at h1) (by rw [SX.S_len]; omega), by omega⟩
theorem okW_num {a : Int} (hl : (numS a).length ≤ 2000) : okW true (numS a) ∧ valW true (numS a) = a := by
  rcases numS_cases a with ⟨h, e⟩ | ⟨h, e⟩
  · have hd : (numS a).head? ≠ some 45 := fun z => by
      rw [e] at z
      have := TL.numL_digits a.natAbs 45 (List.mem_of_mem_head? z)
      omega
    have ed : dgs true (numS a) = numS a := by
      unfold dgs
      rw [if_neg (fun z => hd z.2)]
    refine ⟨⟨?_, ?_, ?_, ?_⟩, ?_⟩
    · rw [ed]
      exact List.length_pos_iff.mpr (numS_ne a)
    · rw [ed]
      exact hl
    · rw [ed, e]
      exact TL.numL_digits _
    · rw [ed, e]
      intro z
      by_cases n : a.natAbs = 0
      · rw [n]
        exact TL.numL_lt (by decide)
      · exact absurd z (numL_head _ n)
    · unfold valW
      rw [if_neg (fun z => hd z.2), e, TL.numL_val]
      omega
  · have ed : dgs true (numS a) = TL.numL a.natAbs := by
      unfold dgs
      rw [e]
      simp
    refine ⟨⟨?_, ?_, ?_, ?_⟩, ?_⟩
    · rw [ed]
      exact List.length_pos_iff.mpr (TL.numL_ne _)
    · rw [ed]
      rw [e, List.length_cons] at hl
      omega
    · rw [ed]
      exact TL.numL_digits _
    · rw [ed]
      exact fun z => absurd z (numL_head _ (by omega))
    · unfold valW
      rw [e]
      simp [TL.numL_val]
      omega
theorem okW_num0 {b : Int} (h0 : 0 ≤ b) (hl : (numS b).length ≤ 2000) : okW false (numS b) ∧ valW false (numS b) = b := by
  rcases numS_cases b with ⟨h, e⟩ | ⟨h, e⟩
  · have ed : dgs false (numS b) = numS b := by
      unfold dgs
      simp
    refine ⟨⟨?_, ?_, ?_, ?_⟩, ?_⟩
    · rw [ed]
      exact List.length_pos_iff.mpr (numS_ne b)
    · rw [ed]
      exact hl
    · rw [ed, e]
      exact TL.numL_digits _
    · rw [ed, e]
      intro z
      by_cases n : b.natAbs = 0
      · rw [n]
        exact TL.numL_lt (by decide)
      · exact absurd z (numL_head _ n)
    · unfold valW
      rw [e]
      simp [TL.numL_val]
      omega
  · omega
/-! ### a fraction's text, read -/
def Rd (l : List Nat) (a b : Int) : Prop := l.length ≤ 2000 ∧ okW true (cutAt 47 l).1 ∧ a = valW true (cutAt 47 l).1 ∧
  (((cutAt 47 l).2.1 = [] ∧ b = 1) ∨ ((cutAt 47 l).2.1 ≠ [] ∧ okW false (cutAt 47 l).2.2 ∧ b = valW false (cutAt 47 l).2.2 ∧ 2 ≤ b ∧ Nat.gcd a.natAbs b.natAbs = 1))
def NoRd (l : List Nat) : Prop := ∀ a b, ¬ Rd l a b
def wr (a b : Int) : List Nat := if b = 1 then numS a else numS a ++ [47] ++ numS b
theorem cut_app {c : Nat} : ∀ {p : List Nat} (q : List Nat), c ∉ p → cutAt c (p ++ c :: q) = (p, [c], q)
  | [], q, _ => by simp [cutAt]
  | d :: p, q, h => by
    have e : d ≠ c := fun z => h (by rw [z]; exact List.mem_cons_self)
    have ih := cut_app (p := p) q (fun z => h (List.mem_cons_of_mem _ z))
    rw [List.cons_append]
    simp [cutAt, e, ih]
theorem cut_join (c : Nat) : ∀ l : List Nat, l = (cutAt c l).1 ++ (cutAt c l).2.1 ++ (cutAt c l).2.2 ∧ ((cutAt c l).2.1 = [] → (cutAt c l).2.2 = []) ∧ ((cutAt c l).2.1 = [] ∨ (cutAt c l).2.1 = [c])
  | [] => by simp [cutAt]
  | d :: l => by
    have ih := cut_join c l
    by_cases e : d = c
    · simp [cutAt, e]
    · simp only [cutAt, if_neg e]
      refine ⟨?_, ih.2⟩
      rw [List.cons_append, List.cons_append, ← ih.1]
theorem rd_wr {a b : Int} (hb : 1 ≤ b) (g : Nat.gcd a.natAbs b.natAbs = 1) (hl : (wr a b).length ≤ 2000) : Rd (wr a b) a b := by
  unfold wr at *
  by_cases e : b = 1
  · rw [if_pos e] at *
    have c := cut_none 47 (numS a) (numS_no47 a)
    have q := okW_num hl
    refine ⟨hl, ?_, ?_, .inl ⟨?_, e⟩⟩ <;> rw [c]
    · exact q.1
    · exact q.2.symm
  · rw [if_neg e] at *
    have c : cutAt 47 (numS a ++ [47] ++ numS b) = (numS a, [47], numS b) := by
      rw [List.append_assoc]
      exact cut_app (numS b) (numS_no47 a)
    have l1 : (numS a).length ≤ 2000 := by
      rw [List.length_append, List.length_append] at hl
      omega
    have l2 : (numS b).length ≤ 2000 := by
      rw [List.length_append, List.length_append] at hl
      omega
    have q := okW_num l1
    have q2 := okW_num0 (by omega) l2
    refine ⟨hl, ?_, ?_, .inr ⟨?_, ?_, ?_, by omega, g⟩⟩ <;> rw [c]
    · exact q.1
    · exact q.2.symm
    · simp
    · exact q2.1
    · exact q2.2.symm
theorem rd_one {l : List Nat} {a b a' b' : Int} (h : Rd l a b) (h' : Rd l a' b') : a = a' ∧ b = b' := by
  obtain ⟨_, _, e1, k⟩ := h
  obtain ⟨_, _, e1', k'⟩ := h'
  refine ⟨e1.trans e1'.symm, ?_⟩
  rcases k with ⟨s, e⟩ | ⟨s, _, e, _⟩ <;> rcases k' with ⟨s', e'⟩ | ⟨s', _, e', _⟩
  · exact e.trans e'.symm
  · exact absurd s s'
  · exact absurd s' s
  · exact e.trans e'.symm
/-! ### what a written form is made of -/
theorem okW_mem {sg : Bool} {l : List Nat} (h : okW sg l) : ∀ c ∈ l, (48 ≤ c ∧ c ≤ 57) ∨ c = 45 := by
  obtain ⟨_, _, h3, _⟩ := h
  intro c hc
  unfold dgs at h3
  by_cases k : sg = true ∧ l.head? = some 45
  · rw [if_pos k] at h3
    cases l with
    | nil => simp at hc
    | cons x l =>
      obtain ⟨_, e⟩ := k
      rw [List.head?_cons] at e
      injection e with e
      rcases List.mem_cons.mp hc with z | z
      · exact .inr (z.trans e)
      · exact .inl (h3 c z)
  · rw [if_neg k] at h3
    exact .inl (h3 c hc)
theorem okW_minus {sg : Bool} {l : List Nat} (h : okW sg l) : 45 ∉ l.drop 1 := by
  obtain ⟨_, _, h3, _⟩ := h
  intro hc
  unfold dgs at h3
  by_cases k : sg = true ∧ l.head? = some 45
  · rw [if_pos k] at h3
    have := h3 45 hc
    omega
  · rw [if_neg k] at h3
    have := h3 45 (List.mem_of_mem_drop hc)
    omega
theorem okW_plain {l : List Nat} (h : okW false l) : 45 ∉ l := fun hc => by
  obtain ⟨_, _, h3, _⟩ := h
  have ed : dgs false l = l := by
    unfold dgs
    simp
  rw [ed] at h3
  have := h3 45 hc
  omega
theorem okW_ne {sg : Bool} {l : List Nat} (h : okW sg l) : l ≠ [] := fun z => by
  obtain ⟨h1, _⟩ := h
  rw [z] at h1
  unfold dgs at h1
  simp at h1
theorem rd_mem {l : List Nat} {a b : Int} (h : Rd l a b) : ∀ c ∈ l, (48 ≤ c ∧ c ≤ 57) ∨ c = 45 ∨ c = 47 := by
  obtain ⟨_, h1, _, k⟩ := h
  obtain ⟨e, e2, e3⟩ := cut_join 47 l
  intro c hc
  rw [e] at hc
  rcases List.mem_append.mp hc with hc | hc
  · rcases List.mem_append.mp hc with hc | hc
    · exact (okW_mem h1 c hc).imp id .inl
    · rcases e3 with z | z
      · rw [z] at hc
        simp at hc
      · rw [z] at hc
        exact .inr (.inr (List.mem_singleton.mp hc))
  · rcases k with ⟨s, _⟩ | ⟨_, h2, _⟩
    · rw [e2 s] at hc
      simp at hc
    · exact (okW_mem h2 c hc).imp id .inl
theorem rd_minus {l : List Nat} {a b : Int} (h : Rd l a b) : 45 ∉ l.drop 1 := by
  obtain ⟨_, h1, _, k⟩ := h
  obtain ⟨e, e2, e3⟩ := cut_join 47 l
  intro hc
  have n := okW_ne h1
  have m1 := okW_minus h1
  have m2 : 45 ∉ (cutAt 47 l).2.2 := by
    rcases k with ⟨s, _⟩ | ⟨_, h2, _⟩
    · rw [e2 s]
      simp
    · exact okW_plain h2
  have m3 : 45 ∉ (cutAt 47 l).2.1 := by
    rcases e3 with z | z <;> rw [z] <;> simp
  rw [e] at hc
  generalize (cutAt 47 l).1 = p at *
  cases p with
  | nil => exact n rfl
  | cons x p =>
    simp at hc m1
    rcases hc with z | z | z
    · exact m1 z
    · exact m3 z
    · exact m2 z
theorem rd_slash {l : List Nat} {a b : Int} (h : Rd l a b) : 47 ∉ (cutAt 47 l).2.2 := by
  obtain ⟨_, h1, _, k⟩ := h
  obtain ⟨e, e2, e3⟩ := cut_join 47 l
  intro hc
  rcases k with ⟨s, _⟩ | ⟨_, h2, _⟩
  · rw [e2 s] at hc
    simp at hc
  · have := okW_mem h2 47 hc
    omega
theorem no_mem {l : List Nat} {c : Nat} (hc : c ∈ l) (h1 : ¬ (48 ≤ c ∧ c ≤ 57)) (h2 : c ≠ 45) (h3 : c ≠ 47) : NoRd l := fun a b h => by
  rcases rd_mem h c hc with z | z | z
  · exact h1 z
  · exact h2 z
  · exact h3 z
theorem no_minus {p q : List Nat} (hp : p ≠ []) : NoRd (p ++ 45 :: q) := fun a b h => rd_minus h (by
  cases p with
  | nil => exact absurd rfl hp
  | cons x p => simp)
theorem no_slash {p q s : List Nat} (hp : 47 ∉ p) : NoRd (p ++ 47 :: (q ++ 47 :: s)) := fun a b h => rd_slash h (by
  rw [cut_app _ hp]
  simp)
theorem no_top {l p : List Nat} (e : (cutAt 47 l).1 = p) (h : ¬ okW true p) : NoRd l := fun a b k => h (by
  rw [← e]
  exact k.2.1)
theorem no_long {l : List Nat} (h : 2000 < l.length) : NoRd l := fun a b k => by
  have := k.1
  omega
theorem no_zero {sg : Bool} {l p : List Nat} (e : dgs sg l = 48 :: p) (h : l ≠ [48]) : ¬ okW sg l := fun k => h (k.2.2.2 (by rw [e]; rfl))
/-- top / bottom, the bottom not a number from 2 on -/
theorem no_bot {p q : List Nat} (hp : 47 ∉ p) (h : ¬ (okW false q ∧ 2 ≤ valW false q)) : NoRd (p ++ 47 :: q) := fun a b k => by
  obtain ⟨_, _, _, k⟩ := k
  rw [cut_app q hp] at k
  rcases k with ⟨s, _⟩ | ⟨_, h2, e, h3, _⟩
  · simp at s
  · exact h ⟨h2, by rw [← e]; exact h3⟩
theorem no_times {a b t : Int} (hb : 1 ≤ b) (ht : 2 ≤ t) : NoRd (numS (a * t) ++ 47 :: numS (b * t)) := fun a' b' k => by
  obtain ⟨hl, h1, e1, k⟩ := k
  rw [cut_app _ (numS_no47 _)] at h1 e1 k
  rw [List.length_append, List.length_cons] at hl
  have q := okW_num (a := a * t) (by omega)
  rcases k with ⟨s, _⟩ | ⟨_, h2, e, h3, g⟩
  · simp at s
  · have q2 := okW_num0 (b := b * t) (Int.mul_nonneg (by omega) (by omega)) (by omega)
    rw [q.2] at e1
    rw [q2.2] at e
    rw [e1, e, Int.natAbs_mul, Int.natAbs_mul, Nat.gcd_mul_right] at g
    have := Nat.eq_one_of_mul_eq_one_left g
    omega
end DL
set_option Elab.async false
set_option linter.all false
set_option maxRecDepth 100000
/-! DL23: tables whose rows are written: a mutable list of mutable lists. -/
namespace DL
open PySem PySem.Spec L2
open PyProof.Rows hiding St
/-- rows that lie at qs -/
def rowsMu : List Addr → List (List D) → Mu
  | q :: qs, xs :: xss => (q, .lst xs) :: rowsMu qs xss
  | _, _ => []
/-- the table at p, its rows at qs -/
def matM (p : Addr) (qs : List Addr) (xss : List (List D)) (m : Mu) : Mu := rowsMu qs xss ++ (p, .lst (qs.map .ref)) :: m
/-- .. without what lies below -/
def matO (p : Addr) (qs : List Addr) (xss : List (List D)) : Mu := rowsMu qs xss ++ [(p, .lst (qs.map .ref))]
theorem matM_eq {p : Addr} {qs : List Addr} {xss : List (List D)} {m : Mu} : matM p qs xss m = matO p qs xss ++ m := by simp [matM, matO]
theorem at_matP {p : Addr} {qs : List Addr} {xss : List (List D)} {m : Mu} : At (matM p qs xss m) p (.lst (qs.map .ref)) := At.appR .head
theorem at_rows : ∀ {qs : List Addr} {xss : List (List D)} {i : Nat} {q : Addr} {xs : List D}, qs[i]? = some q → xss[i]? = some xs → At (rowsMu qs xss) q (.lst xs)
  | [], _, _, _, _, h, _ => by simp at h
  | _ :: _, [], _, _, _, _, h => by simp at h
  | q0 :: qs, x0 :: xss, 0, q, xs, h, h' => by
    simp at h h'
    subst h h'
    exact .head
  | q0 :: qs, x0 :: xss, i + 1, q, xs, h, h' => .tail (at_rows (i := i) (by simpa using h) (by simpa using h'))
theorem at_matR {p q : Addr} {qs : List Addr} {xss : List (List D)} {m : Mu} {i : Nat} {xs : List D} (h : qs[i]? = some q) (h' : xss[i]? = some xs) : At (matM p qs xss m) q (.lst xs) := (at_rows h h').app
theorem Put.app {own own' base : Mu} {p : Addr} {u : MO} (h : Put own p u own') : Put (own ++ base) p u (own' ++ base) := by
  induction h with
  | head => exact .head
  | tail _ ih => exact .tail ih
theorem Put.appR {own base base' : Mu} {p : Addr} {u : MO} (h : Put base p u base') : Put (own ++ base) p u (own ++ base') := by
  induction own with
  | nil => exact h
  | cons q own ih => exact .tail ih
theorem put_rows : ∀ {qs : List Addr} {xss : List (List D)} {i : Nat} {q : Addr} {ys : List D}, qs[i]? = some q → i < xss.length → Put (rowsMu qs xss) q (.lst ys) (rowsMu qs (xss.set i ys))
  | [], _, _, _, _, h, _ => by simp at h
  | _ :: _, [], _, _, _, _, h => by simp at h
  | q0 :: qs, x0 :: xss, 0, q, ys, h, _ => by
    simp at h
    subst h
    exact .head
  | q0 :: qs, x0 :: xss, i + 1, q, ys, h, h' => .tail (put_rows (i := i) (by simpa using h) (by simpa using h'))
theorem put_matR {p q : Addr} {qs : List Addr} {xss : List (List D)} {m : Mu} {i : Nat} {ys : List D} (h : qs[i]? = some q) (h' : i < xss.length) : Put (matM p qs xss m) q (.lst ys) (matM p qs (xss.set i ys) m) := (put_rows h h').app
theorem frz_rows {own : Mu} : ∀ {qs : List Addr} {xss : List (List D)}, qs.length = xss.length → (∀ q ∈ rowsMu qs xss, At own q.1 q.2) → FrzL own (qs.map .ref) (xss.map .lst)
  | [], [], _, _ => .nil
  | q :: qs, xs :: xss, h, k => .cons (.ref (k _ (List.mem_cons_self ..)) (FrzL.same xs)) (frz_rows (by simpa using h) fun z hz => k z (List.mem_cons_of_mem _ hz))
theorem At.of_mem {m : Mu} {p : Addr} {o : MO} (h : (p, o) ∈ m) : At m p o := by
  induction m with
  | nil => cases h
  | cons q m ih =>
    rcases List.mem_cons.mp h with e | h
    · subst e; exact .head
    · exact .tail (ih h)
/-- the whole table, taken as fixed -/
theorem frz_mat {p : Addr} {qs : List Addr} {xss : List (List D)} {m : Mu} (h : qs.length = xss.length) : Frz (matM p qs xss m) (.ref p) (.lst (xss.map .lst)) := .ref at_matP (frz_rows h fun q hq => At.of_mem (List.mem_append_left _ hq))
theorem frz_matO {p : Addr} {qs : List Addr} {xss : List (List D)} (h : qs.length = xss.length) : Frz (matO p qs xss) (.ref p) (.lst (xss.map .lst)) := .ref (At.appR .head) (frz_rows h fun q hq => At.of_mem (List.mem_append_left _ hq))
theorem rowsMu_snoc : ∀ {qs : List Addr} {xss : List (List D)} {q : Addr} {xs : List D}, qs.length = xss.length → rowsMu (qs ++ [q]) (xss ++ [xs]) = rowsMu qs xss ++ [(q, .lst xs)]
  | [], [], _, _, _ => rfl
  | q0 :: qs, x0 :: xss, q, xs, h => congrArg (_ :: ·) (rowsMu_snoc (by simpa using h))
section
variable {W : WX} {E : ET} {r : Rho} {m : Mu} {K : KT} {G : Gx} {te : TE} {wi : TI} {g : TG} {vs : List Nat}
/-- [row for ..], each row a new mutable list -/
theorem we_lcMat {α : Type} (inj : α → D) (f : α → List D) (gk : GK g vs) (h : Wi W E wi r m fun xs ps m1 => ∃ zs : List α, xs = zs.map inj ∧ Nat.ble zs.length 100000 = true ∧
      (∀ a ∈ zs, ∀ (own : Mu), Wg wNo eNo g (inj a) (wipeR r vs) (own ++ m1) fun r2 m2 => We wNo eNo te r2 m2 fun y m4 => ∃ q, y = .ref q ∧ m4 = (q, .lst (f a)) :: (own ++ m1)) ∧
      ∀ p qs, qs.length = zs.length → K (.ref p) (matM p qs (zs.map f) m1)) : We W E (tLc wi g tYes te vs) r m K :=
  we_perm (we_lcI gk fun s H R e z gg => h s H R e z fun J xs ps m1 H1 s1 mu1 it ⟨zs, hx, hlen, hel, hK⟩ => gg J xs ps m1 H1 s1 mu1 it fun Dd hD => by
    subst hx
    have hlen' := Nat.le_of_ble_eq_true hlen
    refine ⟨fun i m' => ∃ (qs : List Addr) (rs : Mu), qs.length = (zs.take i).length ∧ m' = rs ++ (Dd, .lst (qs.map .ref)) :: m1 ∧ rs.Perm (rowsMu qs ((zs.take i).map f)), ⟨[], [], rfl, rfl, List.Perm.nil⟩, fun i m' ⟨qs, rs, _, e, _⟩ => ?_, fun i x m' hx ⟨qs, rs, hl, e, hp⟩ => ?_, fun m' ⟨qs, rs, hl, e, hp⟩ => ?_⟩
    · subst e
      intro p hp o ho
      exact At.appR (.tail ho)
    · subst e
      rw [List.getElem?_map] at hx
      cases ha : zs[i]? with
      | none => rw [ha] at hx; cases hx
      | some a =>
        rw [ha] at hx
        cases hx
        have ex : zs.take (i + 1) = zs.take i ++ [a] := by
          rw [List.take_add_one, ha]
          rfl
        intro s2 H2 v Q e2 z2 rp2 g2
        have ee : rs ++ (Dd, MO.lst (qs.map .ref)) :: m1 = (rs ++ [(Dd, MO.lst (qs.map .ref))]) ++ m1 := by simp
        have key := hel a (List.mem_of_getElem? ha) (rs ++ [(Dd, MO.lst (qs.map .ref))])
        rw [← ee] at key
        refine key s2 H2 v Q e2 z2 rp2 fun r3 m3 s3 H3 a3 b3 c3 => g2 r3 m3 s3 H3 a3 b3 (wt_yes ⟨fun _ => c3.imp fun y m6 ⟨q, e5, e6⟩ => ?_, fun q => nomatch q⟩)
        subst e5 e6
        have lq : qs.length ≤ zs.length := by rw [hl, List.length_take]; exact Nat.min_le_right _ _
        refine ⟨qs.map .ref, (q, .lst (f a)) :: (rs ++ (Dd, .lst (qs.map .ref ++ [.ref q])) :: m1), .tail (At.appR .head), ?_, .tail ?_, qs ++ [q], (q, .lst (f a)) :: rs, ?_, ?_, ?_⟩
        · rw [List.length_map]
          omega
        · exact Put.appR .head
        · rw [ex]
          simp [hl]
        · simp
        · rw [ex, List.map_append]
          show List.Perm _ (rowsMu (qs ++ [q]) ((zs.take i).map f ++ [f a]))
          rw [rowsMu_snoc (by rw [hl, List.length_map])]
          exact (List.Perm.cons _ hp).trans (List.perm_append_comm (l₁ := [(q, MO.lst (f a))]))
    · subst e
      rw [List.length_map, List.take_length] at hl hp
      exact ⟨_, hp.append_right _, hK Dd qs hl⟩)
end
end DL
namespace DL
open PySem PySem.Spec L2
open PyProof.Rows hiding St
/-! ### the rules with the fragment told by its name -/
section
variable {X : Cx} {KK : PySem.W.Frag} {tg l e e2 : Expr} {tl : TE} {ta : TA} {p pos tpos : Pos} {elts es : List Expr} {kk k n : Nat} {t : TGs}
theorem pi_seqK (hK : X.K = KK) (hl : PE X l tl) : PI X tg l (iSeq KK tl) := by
  subst hK
  exact pi_seq hl
theorem pi_zipK (hK : X.K = KK) (hg : Gl X "zip") (hm : X.mg "zip" = none) (ha : PA X [e, e2] ta)
    (hs : starEach [e, e2] X.env = (false, eval e X.env) :: starEach [e2] X.env := by rfl) (hpl : (backTo pos (starEach [e2] X.env)).any (·.1) = false := by rfl) :
    PI X (.Tuple elts kk tpos) (.Call (.Name "zip" p) [e, e2] [] pos) (iZipS KK ta) := by
  subst hK
  exact pi_zipS hg hm ha hs hpl
theorem pg_tupK (hK : X.K = KK) (hc : X.calm = true) (h : PGs X es t)
    (hn : (assignEach es X.env).length = n := by rfl) (hst : (assignEach es X.env).findIdx? (·.1) = none := by rfl) : PG X (.Tuple es k pos) (gTup KK n t) := by
  subst hK
  exact pg_tup hc h hn hst
theorem sl_listK (hK : X.K = KK) : SlR X (rSlL KK) := by
  subst hK
  exact sl_list
end
end DL
set_option Elab.async false
set_option linter.all false
set_option maxRecDepth 100000
set_option maxHeartbeats 4000000
namespace K03
open PySem PySem.Spec L2 DL
open PyProof.Rows hiding St
open SX (S)
open PySem.NumText (AllDigits digitsVal)
def top (i : Nat) : Stmt := PySem.Challenge.pw_fewcarry_k03_fraction_text.main.body.getD i (.Pass ⟨0, 0, 0, 0⟩)
abbrev s_BadNumber___init__ : Stmt := inClass (top 6) 0
abbrev s_whole_of : Stmt := top 10
abbrev s_Ratio___init__ : Stmt := inClass (top 14) 0
abbrev s_Ratio_read : Stmt := inClass (top 14) 1
abbrev s_Ratio_text : Stmt := inClass (top 14) 2
abbrev s__law_start : Stmt := top 16
abbrev s__law_digit : Stmt := top 17
abbrev s__law_lowest : Stmt := top 18
abbrev s__law_long : Stmt := top 19
abbrev s__law_fraction : Stmt := top 20
abbrev s__law_written : Stmt := top 21
abbrev s__law_reads : Stmt := top 22
abbrev s__law_refuses : Stmt := top 23
abbrev s__law_spoilt : Stmt := top 24
abbrev s__law_bounds : Stmt := top 25
abbrev s_law : Stmt := top 26

theorem nd_self : (("self" : Str) == ("__debug__" : Str)) = false ∧ (("self" : Str) == ("__classdict__" : Str)) = false := ⟨by decide +kernel, by decide +kernel⟩
theorem nd_given : (("given" : Str) == ("__debug__" : Str)) = false ∧ (("given" : Str) == ("__classdict__" : Str)) = false := ⟨by decide +kernel, by decide +kernel⟩
theorem nd_text : (("text" : Str) == ("__debug__" : Str)) = false ∧ (("text" : Str) == ("__classdict__" : Str)) = false := ⟨by decide +kernel, by decide +kernel⟩
theorem nd_signed : (("signed" : Str) == ("__debug__" : Str)) = false ∧ (("signed" : Str) == ("__classdict__" : Str)) = false := ⟨by decide +kernel, by decide +kernel⟩
theorem nd_digits : (("digits" : Str) == ("__debug__" : Str)) = false ∧ (("digits" : Str) == ("__classdict__" : Str)) = false := ⟨by decide +kernel, by decide +kernel⟩
theorem nd_char : (("char" : Str) == ("__debug__" : Str)) = false ∧ (("char" : Str) == ("__classdict__" : Str)) = false := ⟨by decide +kernel, by decide +kernel⟩
theorem nd_top : (("top" : Str) == ("__debug__" : Str)) = false ∧ (("top" : Str) == ("__classdict__" : Str)) = false := ⟨by decide +kernel, by decide +kernel⟩
theorem nd_bottom : (("bottom" : Str) == ("__debug__" : Str)) = false ∧ (("bottom" : Str) == ("__classdict__" : Str)) = false := ⟨by decide +kernel, by decide +kernel⟩
theorem nd_shared : (("shared" : Str) == ("__debug__" : Str)) = false ∧ (("shared" : Str) == ("__classdict__" : Str)) = false := ⟨by decide +kernel, by decide +kernel⟩
theorem nd_cls : (("cls" : Str) == ("__debug__" : Str)) = false ∧ (("cls" : Str) == ("__classdict__" : Str)) = false := ⟨by decide +kernel, by decide +kernel⟩
theorem nd_written_top : (("written_top" : Str) == ("__debug__" : Str)) = false ∧ (("written_top" : Str) == ("__classdict__" : Str)) = false := ⟨by decide +kernel, by decide +kernel⟩
theorem nd_slash : (("slash" : Str) == ("__debug__" : Str)) = false ∧ (("slash" : Str) == ("__classdict__" : Str)) = false := ⟨by decide +kernel, by decide +kernel⟩
theorem nd_written_bottom : (("written_bottom" : Str) == ("__debug__" : Str)) = false ∧ (("written_bottom" : Str) == ("__classdict__" : Str)) = false := ⟨by decide +kernel, by decide +kernel⟩
theorem nd_script : (("script" : Str) == ("__debug__" : Str)) = false ∧ (("script" : Str) == ("__classdict__" : Str)) = false := ⟨by decide +kernel, by decide +kernel⟩
theorem nd_cell : (("cell" : Str) == ("__debug__" : Str)) = false ∧ (("cell" : Str) == ("__classdict__" : Str)) = false := ⟨by decide +kernel, by decide +kernel⟩
theorem nd_pot : (("pot" : Str) == ("__debug__" : Str)) = false ∧ (("pot" : Str) == ("__classdict__" : Str)) = false := ⟨by decide +kernel, by decide +kernel⟩
theorem nd_many : (("many" : Str) == ("__debug__" : Str)) = false ∧ (("many" : Str) == ("__classdict__" : Str)) = false := ⟨by decide +kernel, by decide +kernel⟩
theorem nd_digit : (("digit" : Str) == ("__debug__" : Str)) = false ∧ (("digit" : Str) == ("__classdict__" : Str)) = false := ⟨by decide +kernel, by decide +kernel⟩
theorem nd_u : (("u" : Str) == ("__debug__" : Str)) = false ∧ (("u" : Str) == ("__classdict__" : Str)) = false := ⟨by decide +kernel, by decide +kernel⟩
theorem nd_v : (("v" : Str) == ("__debug__" : Str)) = false ∧ (("v" : Str) == ("__classdict__" : Str)) = false := ⟨by decide +kernel, by decide +kernel⟩
theorem nd_k : (("k" : Str) == ("__debug__" : Str)) = false ∧ (("k" : Str) == ("__classdict__" : Str)) = false := ⟨by decide +kernel, by decide +kernel⟩
theorem nd_rest : (("rest" : Str) == ("__debug__" : Str)) = false ∧ (("rest" : Str) == ("__classdict__" : Str)) = false := ⟨by decide +kernel, by decide +kernel⟩
theorem nd_size : (("size" : Str) == ("__debug__" : Str)) = false ∧ (("size" : Str) == ("__classdict__" : Str)) = false := ⟨by decide +kernel, by decide +kernel⟩
theorem nd_first : (("first" : Str) == ("__debug__" : Str)) = false ∧ (("first" : Str) == ("__classdict__" : Str)) = false := ⟨by decide +kernel, by decide +kernel⟩
theorem nd_piece : (("piece" : Str) == ("__debug__" : Str)) = false ∧ (("piece" : Str) == ("__classdict__" : Str)) = false := ⟨by decide +kernel, by decide +kernel⟩
theorem nd_n : (("n" : Str) == ("__debug__" : Str)) = false ∧ (("n" : Str) == ("__classdict__" : Str)) = false := ⟨by decide +kernel, by decide +kernel⟩
theorem nd_kind : (("kind" : Str) == ("__debug__" : Str)) = false ∧ (("kind" : Str) == ("__classdict__" : Str)) = false := ⟨by decide +kernel, by decide +kernel⟩
theorem nd_p : (("p" : Str) == ("__debug__" : Str)) = false ∧ (("p" : Str) == ("__classdict__" : Str)) = false := ⟨by decide +kernel, by decide +kernel⟩
theorem nd_told : (("told" : Str) == ("__debug__" : Str)) = false ∧ (("told" : Str) == ("__classdict__" : Str)) = false := ⟨by decide +kernel, by decide +kernel⟩
theorem nd_again : (("again" : Str) == ("__debug__" : Str)) = false ∧ (("again" : Str) == ("__classdict__" : Str)) = false := ⟨by decide +kernel, by decide +kernel⟩
theorem nd_e : (("e" : Str) == ("__debug__" : Str)) = false ∧ (("e" : Str) == ("__classdict__" : Str)) = false := ⟨by decide +kernel, by decide +kernel⟩
theorem nd_times : (("times" : Str) == ("__debug__" : Str)) = false ∧ (("times" : Str) == ("__classdict__" : Str)) = false := ⟨by decide +kernel, by decide +kernel⟩
theorem nd_low : (("low" : Str) == ("__debug__" : Str)) = false ∧ (("low" : Str) == ("__classdict__" : Str)) = false := ⟨by decide +kernel, by decide +kernel⟩
theorem nd_more : (("more" : Str) == ("__debug__" : Str)) = false ∧ (("more" : Str) == ("__classdict__" : Str)) = false := ⟨by decide +kernel, by decide +kernel⟩
theorem nd_rows : (("rows" : Str) == ("__debug__" : Str)) = false ∧ (("rows" : Str) == ("__classdict__" : Str)) = false := ⟨by decide +kernel, by decide +kernel⟩
theorem nd_ahead : (("ahead" : Str) == ("__debug__" : Str)) = false ∧ (("ahead" : Str) == ("__classdict__" : Str)) = false := ⟨by decide +kernel, by decide +kernel⟩
theorem nd_behind : (("behind" : Str) == ("__debug__" : Str)) = false ∧ (("behind" : Str) == ("__classdict__" : Str)) = false := ⟨by decide +kernel, by decide +kernel⟩
theorem nd_between : (("between" : Str) == ("__debug__" : Str)) = false ∧ (("between" : Str) == ("__classdict__" : Str)) = false := ⟨by decide +kernel, by decide +kernel⟩
theorem nd_signs : (("signs" : Str) == ("__debug__" : Str)) = false ∧ (("signs" : Str) == ("__classdict__" : Str)) = false := ⟨by decide +kernel, by decide +kernel⟩
theorem nd_sign : (("sign" : Str) == ("__debug__" : Str)) = false ∧ (("sign" : Str) == ("__classdict__" : Str)) = false := ⟨by decide +kernel, by decide +kernel⟩
theorem nd_place : (("place" : Str) == ("__debug__" : Str)) = false ∧ (("place" : Str) == ("__classdict__" : Str)) = false := ⟨by decide +kernel, by decide +kernel⟩
theorem nd_whole : (("whole" : Str) == ("__debug__" : Str)) = false ∧ (("whole" : Str) == ("__classdict__" : Str)) = false := ⟨by decide +kernel, by decide +kernel⟩
theorem nd_row : (("row" : Str) == ("__debug__" : Str)) = false ∧ (("row" : Str) == ("__classdict__" : Str)) = false := ⟨by decide +kernel, by decide +kernel⟩
theorem nd_BadNumber : (("BadNumber" : Str) == ("__debug__" : Str)) = false ∧ (("BadNumber" : Str) == ("__classdict__" : Str)) = false := ⟨by decide +kernel, by decide +kernel⟩
theorem nd_CarryError : (("CarryError" : Str) == ("__debug__" : Str)) = false ∧ (("CarryError" : Str) == ("__classdict__" : Str)) = false := ⟨by decide +kernel, by decide +kernel⟩
theorem nd_OutOfBounds : (("OutOfBounds" : Str) == ("__debug__" : Str)) = false ∧ (("OutOfBounds" : Str) == ("__classdict__" : Str)) = false := ⟨by decide +kernel, by decide +kernel⟩
theorem nd_ZeroBottom : (("ZeroBottom" : Str) == ("__debug__" : Str)) = false ∧ (("ZeroBottom" : Str) == ("__classdict__" : Str)) = false := ⟨by decide +kernel, by decide +kernel⟩
abbrev N_BadNumber___init__ : List Str := ["self", "given"]
theorem sc_BadNumber___init__ : FnScope N_BadNumber___init__ ["self", "given"] (defScope s_BadNumber___init__) := ⟨rfl, rfl, rfl, by decide +kernel, rfl, by decide +kernel, by decide +kernel⟩
abbrev N_whole_of : List Str := ["text", "signed", "digits", "char"]
theorem sc_whole_of : FnScope N_whole_of ["text", "signed"] (defScope s_whole_of) := ⟨rfl, rfl, rfl, by decide +kernel, rfl, by decide +kernel, by decide +kernel⟩
abbrev N_Ratio___init__ : List Str := ["self", "top", "bottom", "shared"]
theorem sc_Ratio___init__ : FnScope N_Ratio___init__ ["self", "top", "bottom"] (defScope s_Ratio___init__) := ⟨rfl, rfl, rfl, by decide +kernel, rfl, by decide +kernel, by decide +kernel⟩
abbrev N_Ratio_read : List Str := ["cls", "text", "written_top", "slash", "written_bottom", "top", "bottom"]
theorem sc_Ratio_read : FnScope N_Ratio_read ["cls", "text"] (defScope s_Ratio_read) := ⟨rfl, rfl, rfl, by decide +kernel, rfl, by decide +kernel, by decide +kernel⟩
abbrev N_Ratio_text : List Str := ["self"]
theorem sc_Ratio_text : FnScope N_Ratio_text ["self"] (defScope s_Ratio_text) := ⟨rfl, rfl, rfl, by decide +kernel, rfl, by decide +kernel, by decide +kernel⟩
abbrev N__law_start : List Str := ["script", "cell"]
theorem sc__law_start : FnScope N__law_start ["script"] (defScope s__law_start) := ⟨rfl, rfl, rfl, by decide +kernel, rfl, by decide +kernel, by decide +kernel⟩
abbrev N__law_digit : List Str := ["pot", "many", "digit"]
theorem sc__law_digit : FnScope N__law_digit ["pot", "many"] (defScope s__law_digit) := ⟨rfl, rfl, rfl, by decide +kernel, rfl, by decide +kernel, by decide +kernel⟩
abbrev N__law_lowest : List Str := ["top", "bottom", "u", "v", "k", "rest"]
theorem sc__law_lowest : FnScope N__law_lowest ["top", "bottom"] (defScope s__law_lowest) := ⟨rfl, rfl, rfl, by decide +kernel, rfl, by decide +kernel, by decide +kernel⟩
abbrev N__law_long : List Str := ["pot", "size", "first", "piece", "n"]
theorem sc__law_long : FnScope N__law_long ["pot"] (defScope s__law_long) := ⟨rfl, rfl, rfl, by decide +kernel, rfl, by decide +kernel, by decide +kernel⟩
abbrev N__law_fraction : List Str := ["pot", "kind", "top"]
theorem sc__law_fraction : FnScope N__law_fraction ["pot"] (defScope s__law_fraction) := ⟨rfl, rfl, rfl, by decide +kernel, rfl, by decide +kernel, by decide +kernel⟩
abbrev N__law_written : List Str := ["p"]
theorem sc__law_written : FnScope N__law_written ["p"] (defScope s__law_written) := ⟨rfl, rfl, rfl, by decide +kernel, rfl, by decide +kernel, by decide +kernel⟩
abbrev N__law_reads : List Str := ["text", "p", "told", "again"]
theorem sc__law_reads : FnScope N__law_reads ["text", "p"] (defScope s__law_reads) := ⟨rfl, rfl, rfl, by decide +kernel, rfl, by decide +kernel, by decide +kernel⟩
abbrev N__law_refuses : List Str := ["text", "e"]
theorem sc__law_refuses : FnScope N__law_refuses ["text"] (defScope s__law_refuses) := ⟨rfl, rfl, rfl, by decide +kernel, rfl, by decide +kernel, by decide +kernel⟩
abbrev N__law_spoilt : List Str := ["pot", "p", "text", "times", "top", "low", "more", "rows", "ahead", "behind", "between", "signs", "sign", "place"]
theorem sc__law_spoilt : FnScope N__law_spoilt ["pot", "p", "text", "times"] (defScope s__law_spoilt) := ⟨rfl, rfl, rfl, by decide +kernel, rfl, by decide +kernel, by decide +kernel⟩
abbrev N__law_bounds : List Str := ["sign", "whole", "row"]
theorem sc__law_bounds : FnScope N__law_bounds ["sign"] (defScope s__law_bounds) := ⟨rfl, rfl, rfl, by decide +kernel, rfl, by decide +kernel, by decide +kernel⟩
abbrev N_law : List Str := ["script", "pot", "p", "times", "text", "row", "n"]
theorem sc_law : FnScope N_law ["script"] (defScope s_law) := ⟨rfl, rfl, rfl, by decide +kernel, rfl, by decide +kernel, by decide +kernel⟩

theorem bt_abs : bootBuiltins "abs" = some (.builtin "abs") := by decide +kernel
theorem bt_len : bootBuiltins "len" = some (.builtin "len") := by decide +kernel
theorem bt_min : bootBuiltins "min" = some (.builtin "min") := by decide +kernel
theorem bt_max : bootBuiltins "max" = some (.builtin "max") := by decide +kernel
theorem bt_int : bootBuiltins "int" = some (.type "int") := by decide +kernel
theorem bt_bool : bootBuiltins "bool" = some (.type "bool") := by decide +kernel
theorem bt_str : bootBuiltins "str" = some (.type "str") := by decide +kernel
theorem bt_ValueError : bootBuiltins "ValueError" = some (.type "ValueError") := by decide +kernel
theorem bt_isinstance : bootBuiltins "isinstance" = some (.builtin "isinstance") := by decide +kernel
theorem bt_all : bootBuiltins "all" = some (.builtin "all") := by decide +kernel
theorem bt_any : bootBuiltins "any" = some (.builtin "any") := by decide +kernel
theorem bt_list : bootBuiltins "list" = some (.type "list") := by decide +kernel
theorem bt_tuple : bootBuiltins "tuple" = some (.type "tuple") := by decide +kernel
theorem bt_sum : bootBuiltins "sum" = some (.builtin "sum") := by decide +kernel

structure Txt (G : Gx) (C_Ratio C_ZeroBottom C_BadNumber C_CarryError : Addr) : Prop where
  n_abs : G.mg "abs" = none
  n_len : G.mg "len" = none
  n_int : G.mg "int" = none
  n_bool : G.mg "bool" = none
  n_str : G.mg "str" = none
  n_range : G.mg "range" = none
  n_isinstance : G.mg "isinstance" = none
  n_ValueError : G.mg "ValueError" = none
  mg_gcd : G.mg "gcd" = some (.builtin "math.gcd")
  gc_MOST_DIGITS : ∃ u, G.mg "MOST_DIGITS" = some u ∧ RelV (.int 2000) u
  gc_MOST_CHARACTERS : ∃ u, G.mg "MOST_CHARACTERS" = some u ∧ RelV (.int 2000) u
  gc_DIGITS : ∃ u, G.mg "DIGITS" = some u ∧ RelV (.str (SX.S [48, 49, 50, 51, 52, 53, 54, 55, 56, 57])) u
  nd : NoDig G.K
  mg_Ratio : G.mg "Ratio" = some (.ref C_Ratio)
  mg_ZeroBottom : G.mg "ZeroBottom" = some (.ref C_ZeroBottom)
  mg_BadNumber : G.mg "BadNumber" = some (.ref C_BadNumber)
  mg_CarryError : G.mg "CarryError" = some (.ref C_CarryError)
  R_Ratio : RatC G.K C_Ratio
  x0_ZeroBottom : Exc0 G "ZeroBottom" C_ZeroBottom
  XC_ZeroBottom : ExK G.K C_ZeroBottom
  x_BadNumber : Exc G "BadNumber" C_BadNumber ["given"]
  XC_BadNumber : ExK G.K C_BadNumber
  no_BadNumber_given : PySem.W.findIn G.K (.ref C_BadNumber) "given" = some none
  is_Ratio_Ratio : PySem.W.kitOne G.K (.ref C_Ratio) (.ref C_Ratio) = some true
  is_BadNumber_BadNumber : PySem.W.kitOne G.K (.ref C_BadNumber) (.ref C_BadNumber) = some true
  is_BadNumber_ZeroBottom : PySem.W.kitOne G.K (.ref C_BadNumber) (.ref C_ZeroBottom) = some false
  isT_BadNumber_ValueError : PySem.W.kitOne G.K (.ref C_BadNumber) (.type "ValueError") = some true
  ex_BadNumber_CarryError : PySem.W.exmOne G.K (.ref C_BadNumber) (.ref C_CarryError) = some true

/-! one step, by the goal's head -/

/-! Ratio and Span by numbers: their promises used -/
local macro_rules | `(tactic| walk_at "fld_1") => `(tactic| (with_reducible refine we_fldF ?_))
local macro_rules | `(tactic| walk_at "useWe_1") => `(tactic| first | (with_reducible refine we_mt ?_) | (with_reducible refine we_ratQ ?_) | (with_reducible refine we_ratQ1 ?_) | (with_reducible refine we_spn ?_) | fail)
local macro_rules | `(tactic| walk_at "sWe_1") => `(tactic| first
  | ((with_reducible refine we_var (d := ?d) ?hv ?hk); case hv => rfl)
  | (with_reducible first
    | refine we_cint ?_ | refine we_2 ?_ | refine we_cl0 ?_ | refine we_tup ?_ | refine we_1 ?_ | refine we_c2 ?_ | refine we_cbl ?_ | refine we_cnon ?_ | refine we_cty ?_ | refine we_cref ?_
    | refine we_op ?_ | refine we_andV ?_ | refine we_orV ?_ | refine we_notV ?_ | refine we_3 ?_ | refine we_ifx ?_ | refine we_cstr ?_ | refine we_clH ?_)
  | walk_at "fld_1"
  | walk_at "useWe_1")
local macro_rules | `(tactic| walk_at "useW2_1") => `(tactic| first
  | (with_reducible refine w2_addO (by assumption) (by decide) .fixed .fixed ?_) | (with_reducible refine w2_subO (by assumption) (by decide) .fixed .fixed ?_) | (with_reducible refine w2_mulO (by assumption) (by decide) .fixed .fixed ?_) | (with_reducible refine w1_negO (by assumption) (by decide) .fixed ?_) | (with_reducible refine w2_inO (by assumption) (by decide) .fixed ?_) | fail)
local macro_rules | `(tactic| walk_at "sW2_1") => `(tactic| first
  | (with_reducible first
    | refine w2_add ?_ | refine w2_sub ?_ | refine w2_mul ⟨?_, ?_⟩ | refine w2_fdiv ⟨?_, ?_⟩ | refine w2_mod ⟨?_, ?_⟩ | refine w2_pow ⟨?_, ?_⟩ | refine w2_eqI ?_ | refine w2_neI ?_ | refine w2_lt ?_ | refine w2_le ?_ | refine w2_gt ?_ | refine w2_ge ?_ | refine w2_eqFI ?_ | refine w2_neFI ?_)
  | ((with_reducible refine w2_ixT (d := ?d) ⟨?hv, ?hk⟩); case hv => rfl)
  | ((with_reducible refine w2_ixL (d := ?d) ⟨?hv, ?hk⟩); case hv => rfl)
  | ((with_reducible refine w2_ixM (d := ?d) .head ⟨?hv, ?hk⟩); case hv => rfl)
  | (with_reducible first
    | refine w2_eqIH ?_ | refine w2_neIH ?_ | refine w2_mulH ⟨?_, ?_⟩ | refine w2_addH ?_ | refine w2_subH ?_ | refine w2_isN ?_ | refine w2_notN ?_ | refine w2_isB ?_ | refine w2_notB ?_)
  | walk_at "useW2_1")
local macro_rules | `(tactic| walk_at "sWa_1") => `(tactic| with_reducible first | refine wa_nil ?_ | refine wa_cons ?_)
local macro_rules | `(tactic| walk_at "useWs_1") => `(tactic| first | (with_reducible refine ws_rs0 ?_) | (with_reducible refine ws_rs ?_) | fail)
local macro_rules | `(tactic| walk_at "sWs_1") => `(tactic| first
  | (with_reducible first | refine ws_seq ?_ | refine ws_ret ?_ | refine ws_asg ?_ | refine ws_next ?_ | refine ws_drop ?_ | refine ws_par ?_ | refine ws_par3 ?_ | refine ws_fldN ?_ | refine ws_brk ?_ | refine ws_cont ?_)
  | walk_at "useWs_1")
local macro_rules | `(tactic| walk_at "sWt_1") => `(tactic| with_reducible first | refine wt_test ?_ | refine wt_tr ?_ | refine wt_and ?_ | refine wt_or ?_ | refine wt_not ?_)
local macro_rules | `(tactic| walk_at "useWc_1") => `(tactic| fail)
local macro_rules | `(tactic| walk_at "sWc_1") => `(tactic| first
  | (with_reducible first | refine wc_int ?_ | refine wc_abs ?_ | refine wc_min ?_ | refine wc_gcd ?_ | refine wc_isiT .int kit_ii ?_ | refine wc_isiT .int kit_ib ?_ | refine wc_len .lst ?_ | refine wc_len .tup ?_ | refine wc_strI ?_ ?_)
  | walk_at "useWc_1")
local macro_rules | `(tactic| walk_at "sWi_1") => `(tactic| fail)
local macro_rules | `(tactic| walk_at "sWg_1") => `(tactic| with_reducible first | refine wg_name ?_ | refine wg_subM ?_ | refine wg_tup rfl ?_)
local macro_rules | `(tactic| walk_at "sW1_1") => `(tactic| first | (with_reducible refine w1_neg ?_) | walk_at "useW2_1")
local macro_rules | `(tactic| walk_at "sWgs_1") => `(tactic| with_reducible first | refine wgs_cons ?_ | refine wgs_nil ?_)
local macro_rules | `(tactic| walk_at "sS_1") => `(tactic| fail)
local macro_rules | `(tactic| walk_at "use_1") => `(tactic| fail)
local macro_rules | `(tactic| walk_at "sX_1") => `(tactic| first
  | (with_reducible refine ⟨_, rfl, ?_⟩)
  | (with_reducible refine fld_top (by assumption) ?_) | (with_reducible refine fld_bottom (by assumption) ?_)
  | (with_reducible refine ⟨_, .bl, ?_⟩)
  | ((with_reducible refine ⟨?h, ?_⟩); case h => rfl)
  | (with_reducible refine ⟨_, _, rfl, ?_⟩)
  | (with_reducible refine ⟨_, _, _, rfl, ?_⟩)
  | walk_at "use_1"
  | (with_reducible refine setN_top (by assumption) ?_) | (with_reducible refine setN_bottom (by assumption) ?_)
  | ((with_reducible refine ⟨_, _, _, ?j, _, rfl, rfl, .head, ?h, .head, ?_⟩); case h => rfl)
  | fail)
local macro_rules | `(tactic| walk_at "st_1") => `(tactic| first
  | ((with_reducible show We _ _ _ _ _ _); walk_at "sWe_1")
  | ((with_reducible show W2 _ _ _ _ _ _ _ _); walk_at "sW2_1")
  | ((with_reducible show Wa _ _ _ _ _ _); walk_at "sWa_1")
  | ((with_reducible show Ws _ _ _ _ _ _); walk_at "sWs_1")
  | ((with_reducible show Wt _ _ _ _ _ _); walk_at "sWt_1")
  | ((with_reducible show Wc _ _ _ _ _ _ _); walk_at "sWc_1")
  | ((with_reducible show Wi _ _ _ _ _ _); walk_at "sWi_1")
  | ((with_reducible show Wg _ _ _ _ _ _ _); walk_at "sWg_1")
  | ((with_reducible show W1 _ _ _ _ _ _ _); walk_at "sW1_1")
  | ((with_reducible show Wgs _ _ _ _ _ _ _); walk_at "sWgs_1")
  | walk_at "sS_1" | walk_at "sX_1" | fail)
local macro_rules | `(tactic| walk_at "wif_1") => `(tactic| (with_reducible refine ws_if ?_))
local macro_rules | `(tactic| walk_at "br_1") => `(tactic| ((with_reducible refine ⟨fun hb => ?_, fun hb => ?_⟩) <;> (try simp only [decide_eq_true_eq, decide_eq_false_iff_not, Bool.not_eq_true', Bool.not_eq_false', Bool.and_eq_true, Bool.or_eq_true, reduceCtorEq, List.length_map, Bool.not_true, Bool.not_false, DL.isNon, not_true_eq_false, not_false_eq_true, Classical.not_not, List.all_cons, List.all_nil, id_eq, Bool.and_self, Bool.true_and, decide_true, decide_false] at hb)))
local macro_rules | `(tactic| walk_at "go_1") => `(tactic| repeat' (first | walk_at "st_1" | walk_at "wif_1" | walk_at "br_1" | fail))

section
variable {G : Gx} {C_Ratio C_ZeroBottom C_BadNumber C_CarryError : Addr}
theorem ok_ginit (T : Txt G C_Ratio C_ZeroBottom C_BadNumber C_CarryError) {f : Addr} {fd : FuncData} {dvs : List V} (F : FunW G.K "__init__" "Ratio.__init__" s_Ratio___init__ dvs f fd) {ds : List Value} {dd : List D} (b : L2.Binds G.K fd ["self", "top", "bottom"] ds) (d : L2.Vals (dd.map ofD) ds) (cs : dd.all isC = true) : Fnx G 1 f 3 (S_ginit C_Ratio C_ZeroBottom) dd := by
  refine fnx_ofD F sc_Ratio___init__ rfl b d cs (fun cdv A outer s H FF hr tk => ⟨_, (pss_cons (ps_if (pt_cm (os_eqF hr tk) (pe_var (i := 2) rfl (Or.inl rfl) nd_bottom.1 nd_bottom.2) pe_int (nomark _)) (pss_one (ps_rs0 T.x0_ZeroBottom rfl tk rfl)) pss_nil) (pss_cons (ps_set (i := 3) sc_Ratio___init__.nd rfl (Or.inl rfl) (pe_cf cs_gcd rfl T.mg_gcd (pa_cons (pe_var (i := 1) rfl (Or.inl rfl) nd_top.1 nd_top.2) (pa_cons (pe_var (i := 2) rfl (Or.inl rfl) nd_bottom.1 nd_bottom.2) pa_nil)))) (pss_cons (ps_if (pt_cm os_lt (pe_var (i := 2) rfl (Or.inl rfl) nd_bottom.1 nd_bottom.2) pe_int (nomark _)) (pss_one (ps_set (i := 3) sc_Ratio___init__.nd rfl (Or.inl rfl) (pe_una (us_neg hr tk) (pe_var (i := 3) rfl (Or.inl rfl) nd_shared.1 nd_shared.2)))) pss_nil) (pss_cons (ps_fld (pe_var (i := 0) rfl (Or.inl rfl) nd_self.1 nd_self.2) (pe_bin os_fdiv (pe_var (i := 1) rfl (Or.inl rfl) nd_top.1 nd_top.2) (pe_var (i := 3) rfl (Or.inl rfl) nd_shared.1 nd_shared.2)) rfl) (pss_one (ps_fld (pe_var (i := 0) rfl (Or.inl rfl) nd_self.1 nd_self.2) (pe_bin os_fdiv (pe_var (i := 2) rfl (Or.inl rfl) nd_bottom.1 nd_bottom.2) (pe_var (i := 3) rfl (Or.inl rfl) nd_shared.1 nd_shared.2)) rfl)))))), ?_⟩)
  rintro ds m K E - ⟨x, m0, t, b, rfl, rfl, k⟩
  show Ws _ _ _ [some (.ref x), some (.int t), some (.int b), none] _ _
  try dsimp only [cx_G, cx_K]
  have R := T.R_Ratio
  rcases k with ⟨rfl, k⟩ | ⟨hb0, ok, k⟩
  · walk_at "go_1"
    · exact k
    all_goals exact absurd rfl ‹¬ _›
  · have gp := gc_pos (t := t) hb0
    have gn : gc t b ≠ 0 := by omega
    have fin1 : ¬ b < 0 → t.fdiv (gc t b) = rT t b ∧ b.fdiv (gc t b) = rB t b := fun h => by
      unfold rT rB
      rw [if_neg h, if_neg h, fdiv_pos gp, fdiv_pos gp]
      exact ⟨rfl, rfl⟩
    have fin2 : b < 0 → t.fdiv (-gc t b) = rT t b ∧ b.fdiv (-gc t b) = rB t b := fun h => by
      unfold rT rB
      rw [if_pos h, if_pos h, fdiv_neg' gp (gc_dvd1 t b), fdiv_neg' gp (gc_dvd2 t b)]
      exact ⟨rfl, rfl⟩
    have k1 : b < 0 → K .non ((x, .ins C_Ratio ["top", "bottom"] [.int (t.fdiv (-((t.natAbs.gcd b.natAbs : Nat) : Int))), .int (b.fdiv (-((t.natAbs.gcd b.natAbs : Nat) : Int)))]) :: m0) := fun h => by
      have q := k
      rw [← (fin2 h).1, ← (fin2 h).2] at q
      exact q
    have k2 : ¬ b < 0 → K .non ((x, .ins C_Ratio ["top", "bottom"] [.int (t.fdiv ((t.natAbs.gcd b.natAbs : Nat) : Int)), .int (b.fdiv ((t.natAbs.gcd b.natAbs : Nat) : Int))]) :: m0) := fun h => by
      have q := k
      rw [← (fin1 h).1, ← (fin1 h).2] at q
      exact q
    walk_at "go_1"
    all_goals first | exact absurd ‹b = 0› hb0 | exact ok.1.neg | exact ok.2.neg | exact ok.1 | exact ok.2 | exact k1 ‹_› | exact k2 ‹_›
/-! texts -/
local macro_rules | `(tactic| walk_at "fld_2") => `(tactic| (with_reducible refine we_fldF ?_))
local macro_rules | `(tactic| walk_at "useWe_2") => `(tactic| first | (with_reducible refine we_mt ?_) | (with_reducible refine we_ratG ?_) | (with_reducible refine we_ratG1 ?_) | (with_reducible refine we_stw ?_) | (with_reducible refine we_prt ?_) | (with_reducible refine we_slXp ?_) | (with_reducible refine we_slXs ?_) | (with_reducible refine we_mkV rfl ?_) | (with_reducible refine we_cme ?_) | (with_reducible refine we_lst ?_) | fail)
local macro_rules | `(tactic| walk_at "sWe_2") => `(tactic| first
  | ((with_reducible refine we_var (d := ?d) ?hv ?hk); case hv => rfl)
  | (with_reducible first
    | refine we_cint ?_ | refine we_2 ?_ | refine we_cl0 ?_ | refine we_tup ?_ | refine we_1 ?_ | refine we_c2 ?_ | refine we_cbl ?_ | refine we_cnon ?_ | refine we_cty ?_ | refine we_cref ?_
    | refine we_op ?_ | refine we_andV ?_ | refine we_orV ?_ | refine we_notV ?_ | refine we_3 ?_ | refine we_ifx ?_ | refine we_cstr ?_ | refine we_clH ?_)
  | walk_at "fld_2"
  | walk_at "useWe_2")
local macro_rules | `(tactic| walk_at "useW2_2") => `(tactic| first | (with_reducible refine w2_addS ?_ ?_) | (with_reducible refine w2_eqS ?_) | (with_reducible refine w2_neS ?_) | (with_reducible refine w2_ninS ?_) | (with_reducible refine w2_powF ⟨?_, ?_⟩) | fail)
local macro_rules | `(tactic| walk_at "sW2_2") => `(tactic| first
  | (with_reducible first
    | refine w2_add ?_ | refine w2_sub ?_ | refine w2_mul ⟨?_, ?_⟩ | refine w2_fdiv ⟨?_, ?_⟩ | refine w2_mod ⟨?_, ?_⟩ | refine w2_pow ⟨?_, ?_⟩ | refine w2_eqI ?_ | refine w2_neI ?_ | refine w2_lt ?_ | refine w2_le ?_ | refine w2_gt ?_ | refine w2_ge ?_ | refine w2_eqFI ?_ | refine w2_neFI ?_)
  | ((with_reducible refine w2_ixT (d := ?d) ⟨?hv, ?hk⟩); case hv => rfl)
  | ((with_reducible refine w2_ixL (d := ?d) ⟨?hv, ?hk⟩); case hv => rfl)
  | ((with_reducible refine w2_ixM (d := ?d) .head ⟨?hv, ?hk⟩); case hv => rfl)
  | (with_reducible first
    | refine w2_eqIH ?_ | refine w2_neIH ?_ | refine w2_mulH ⟨?_, ?_⟩ | refine w2_addH ?_ | refine w2_subH ?_ | refine w2_isN ?_ | refine w2_notN ?_ | refine w2_isB ?_ | refine w2_notB ?_)
  | walk_at "useW2_2")
local macro_rules | `(tactic| walk_at "sWa_2") => `(tactic| with_reducible first | refine wa_nil ?_ | refine wa_cons ?_)
local macro_rules | `(tactic| walk_at "useWs_2") => `(tactic| first | (with_reducible refine ws_rs0 ?_) | (with_reducible refine ws_rs ?_) | fail)
local macro_rules | `(tactic| walk_at "sWs_2") => `(tactic| first
  | (with_reducible first | refine ws_seq ?_ | refine ws_ret ?_ | refine ws_asg ?_ | refine ws_next ?_ | refine ws_drop ?_ | refine ws_par ?_ | refine ws_par3 ?_ | refine ws_fldN ?_ | refine ws_brk ?_ | refine ws_cont ?_)
  | walk_at "useWs_2")
local macro_rules | `(tactic| walk_at "sWt_2") => `(tactic| with_reducible first | refine wt_test ?_ | refine wt_tr ?_ | refine wt_and ?_ | refine wt_or ?_ | refine wt_not ?_)
local macro_rules | `(tactic| walk_at "useWc_2") => `(tactic| first | (with_reducible refine wc_intLI ?_) | (with_reducible refine wc_lenS ?_ ?_) | (with_reducible refine wc_strL (by assumption) (by decide) ?_) | (with_reducible refine wc_isiT .str kit_ss ?_) | (with_reducible refine wc_isiC (.ins (by assumption)) (by assumption) ?_) | (with_reducible refine wc_absI ?_) | fail)
local macro_rules | `(tactic| walk_at "sWc_2") => `(tactic| first
  | (with_reducible first | refine wc_int ?_ | refine wc_abs ?_ | refine wc_min ?_ | refine wc_gcd ?_ | refine wc_isiT .int kit_ii ?_ | refine wc_isiT .int kit_ib ?_ | refine wc_len .lst ?_ | refine wc_len .tup ?_ | refine wc_strI ?_ ?_)
  | walk_at "useWc_2")
local macro_rules | `(tactic| walk_at "sWi_2") => `(tactic| fail)
local macro_rules | `(tactic| walk_at "sWg_2") => `(tactic| with_reducible first | refine wg_name ?_ | refine wg_subM ?_ | refine wg_tup rfl ?_)
local macro_rules | `(tactic| walk_at "sW1_2") => `(tactic| first | (with_reducible refine w1_neg ?_) | walk_at "useW2_2")
local macro_rules | `(tactic| walk_at "sWgs_2") => `(tactic| with_reducible first | refine wgs_cons ?_ | refine wgs_nil ?_)
local macro_rules | `(tactic| walk_at "sS_2") => `(tactic| fail)
local macro_rules | `(tactic| walk_at "useT_2") => `(tactic| first | (with_reducible refine mt_of0 (by assumption) (by decide) ?_) | (with_reducible refine RatG.mk ?_ ?_ ?_) | (with_reducible refine @And.intro (@LE.le _ _ _ _) _ ?_ ?_) | fail)
local macro_rules | `(tactic| walk_at "use_2") => `(tactic| walk_at "useT_2")
local macro_rules | `(tactic| walk_at "sX_2") => `(tactic| first
  | (with_reducible refine ⟨_, rfl, ?_⟩)
  | (with_reducible refine fld_top (by assumption) ?_) | (with_reducible refine fld_bottom (by assumption) ?_)
  | (with_reducible refine ⟨_, .bl, ?_⟩)
  | ((with_reducible refine ⟨?h, ?_⟩); case h => rfl)
  | (with_reducible refine ⟨_, _, rfl, ?_⟩)
  | (with_reducible refine ⟨_, _, _, rfl, ?_⟩)
  | walk_at "use_2"
  | (with_reducible refine setN_top (by assumption) ?_) | (with_reducible refine setN_bottom (by assumption) ?_)
  | ((with_reducible refine ⟨_, _, _, ?j, _, rfl, rfl, .head, ?h, .head, ?_⟩); case h => rfl)
  | fail)
local macro_rules | `(tactic| walk_at "st_2") => `(tactic| first
  | ((with_reducible show We _ _ _ _ _ _); walk_at "sWe_2")
  | ((with_reducible show W2 _ _ _ _ _ _ _ _); walk_at "sW2_2")
  | ((with_reducible show Wa _ _ _ _ _ _); walk_at "sWa_2")
  | ((with_reducible show Ws _ _ _ _ _ _); walk_at "sWs_2")
  | ((with_reducible show Wt _ _ _ _ _ _); walk_at "sWt_2")
  | ((with_reducible show Wc _ _ _ _ _ _ _); walk_at "sWc_2")
  | ((with_reducible show Wi _ _ _ _ _ _); walk_at "sWi_2")
  | ((with_reducible show Wg _ _ _ _ _ _ _); walk_at "sWg_2")
  | ((with_reducible show W1 _ _ _ _ _ _ _); walk_at "sW1_2")
  | ((with_reducible show Wgs _ _ _ _ _ _ _); walk_at "sWgs_2")
  | walk_at "sS_2" | walk_at "sX_2" | fail)
local macro_rules | `(tactic| walk_at "wif_2") => `(tactic| (with_reducible refine ws_if ?_))
local macro_rules | `(tactic| walk_at "br_2") => `(tactic| ((with_reducible refine ⟨fun hb => ?_, fun hb => ?_⟩) <;> (try simp only [decide_eq_true_eq, decide_eq_false_iff_not, Bool.not_eq_true', Bool.not_eq_false', Bool.and_eq_true, Bool.or_eq_true, reduceCtorEq, List.length_map, Bool.not_true, Bool.not_false, DL.isNon, not_true_eq_false, not_false_eq_true, Classical.not_not, List.all_cons, List.all_nil, id_eq, Bool.and_self, Bool.true_and, decide_true, decide_false] at hb)))
local macro_rules | `(tactic| walk_at "go_2") => `(tactic| repeat' (first | walk_at "st_2" | walk_at "wif_2" | walk_at "br_2" | fail))
local macro_rules | `(tactic| walk_at "gn_2") => `(tactic| repeat' (first | walk_at "st_2" | walk_at "br_2" | fail))

def S_gtext (C : Addr) : SpecD := fun ds m K _ => ∃ x k, ds = [rq C x] ∧ k ≤ 4000 ∧ Dg k x.num ∧ Dg k (x.den : Int) ∧ K (ts (wr x.num x.den)) m
theorem ok_gtext (T : Txt G C_Ratio C_ZeroBottom C_BadNumber C_CarryError) {f : Addr} {fd : FuncData} (F : L2.Fun G.K "text" "Ratio.text" s_Ratio_text f fd) (b : L2.Binds G.K fd ["self"] []) : Fnx G 1 f 1 (S_gtext C_Ratio) [] := by
  refine fnx_of F sc_Ratio_text rfl b .nil rfl (fun cdv A outer s H FF hr tk => ⟨_, (pss_cons (ps_if (pt_cm (os_eqF hr tk) (pe_fld (pe_var (i := 0) rfl (Or.inl rfl) nd_self.1 nd_self.2) rfl) pe_int (nomark _)) (pss_one (ps_ret (pe_ct (cs_strL T.nd rfl) rfl T.n_str bt_str (pa_cons (pe_fld (pe_var (i := 0) rfl (Or.inl rfl) nd_self.1 nd_self.2) rfl) pa_nil)))) pss_nil) (pss_one (ps_ret (pe_bin (os_add hr tk) (pe_bin (os_add hr tk) (pe_ct (cs_strL T.nd rfl) rfl T.n_str bt_str (pa_cons (pe_fld (pe_var (i := 0) rfl (Or.inl rfl) nd_self.1 nd_self.2) rfl) pa_nil)) (pe_strS (l := [47]) (by decide +kernel))) (pe_ct (cs_strL T.nd rfl) rfl T.n_str bt_str (pa_cons (pe_fld (pe_var (i := 0) rfl (Or.inl rfl) nd_self.1 nd_self.2) rfl) pa_nil)))))), ?_⟩)
  rintro ds m K E - ⟨x, n, rfl, hn, d1, d2, k⟩
  show Ws _ _ _ [some (rq C_Ratio x)] _ _
  try dsimp only [cx_G, cx_K]
  have R := T.R_Ratio
  unfold wr at k
  have l1 := numS_len (Nat.succ_pos n) (d1.mono (Nat.le_succ n))
  have l2 := numS_len (Nat.succ_pos n) (d2.mono (Nat.le_succ n))
  walk_at "go_2"
  all_goals refine wc_strL d1 (by omega) ?_
  · rw [if_pos ‹_›] at k
    exact k
  walk_at "go_2"
  · rw [List.length_singleton]
    omega
  refine wc_strL d2 (by omega) ?_
  walk_at "go_2"
  · rw [List.length_append, List.length_singleton]
    omega
  rw [if_neg ‹_›] at k
  exact k
theorem atI_zero {c : Nat} {l : List Nat} : atI (c :: l) 0 = some c := by
  unfold atI ixN
  rw [if_pos (by decide), if_pos (by rw [List.length_cons]; omega)]
  rfl
def S_whole : SpecD := fun ds m K _ => ∃ (l : List Nat) (sg : Bool), ds = [ts l, .bl sg] ∧ l.length ≤ 100000 ∧ ((okW sg l ∧ K (.int (valW sg l)) m) ∨ (¬ okW sg l ∧ K .non m))
theorem ok_whole (T : Txt G C_Ratio C_ZeroBottom C_BadNumber C_CarryError) {f : Addr} {fd : FuncData} (F : L2.Fun G.K "whole_of" "whole_of" s_whole_of f fd) (b : L2.Binds G.K fd ["text", "signed"] []) : Fnx G 1 f 2 S_whole [] := by
  refine fnx_of F sc_whole_of rfl b .nil rfl (fun cdv A outer s H FF hr tk => ⟨_, (pss_cons (ps_set (i := 2) sc_whole_of.nd rfl (Or.inl rfl) (pe_var (i := 0) rfl (Or.inl rfl) nd_text.1 nd_text.2)) (pss_cons (ps_if (PW.pt (pw_and (pt_tr (pe_var (i := 1) rfl (Or.inl rfl) nd_signed.1 nd_signed.2)) (pw_and1 (pt_tr (pe_stw (pe_var (i := 0) rfl (Or.inl rfl) nd_text.1 nd_text.2) (pe_strS (l := [45]) (by decide +kernel))))))) (pss_one (ps_set (i := 2) sc_whole_of.nd rfl (Or.inl rfl) (pe_slice sl_str (pe_var (i := 0) rfl (Or.inl rfl) nd_text.1 nd_text.2) (po_some pe_int) po_none))) pss_nil) (pss_cons (ps_if (pt_not (pt_ch os_le os_le pe_int (pe_cb cs_len rfl T.n_len bt_len (pa_cons (pe_var (i := 2) rfl (Or.inl rfl) nd_digits.1 nd_digits.2) pa_nil)) (pe_gcD rfl T.gc_MOST_DIGITS))) (pss_one (ps_ret pe_non)) pss_nil) (pss_cons (ps_for (passes_of rfl) rfl (pi_str (pe_var (i := 2) rfl (Or.inl rfl) nd_digits.1 nd_digits.2)) (pg_name (i := 3) sc_whole_of.nd rfl (Or.inl rfl)) (pss_one (ps_if (pt_cm os_ninS (pe_var (i := 3) rfl (Or.inl rfl) nd_char.1 nd_char.2) (pe_gcD rfl T.gc_DIGITS) rfl) (pss_one (ps_ret pe_non)) pss_nil))) (pss_cons (ps_if (PW.pt (pw_and (pt_cm (os_eqF hr tk) (pe_ix ix_seq (pe_var (i := 2) rfl (Or.inl rfl) nd_digits.1 nd_digits.2) pe_int (fun _ _ => rfl)) (pe_strS (l := [48]) (by decide +kernel)) (nomark _)) (pw_and1 (pt_cm (os_neF hr tk) (pe_var (i := 0) rfl (Or.inl rfl) nd_text.1 nd_text.2) (pe_strS (l := [48]) (by decide +kernel)) (nomark _))))) (pss_one (ps_ret pe_non)) pss_nil) (pss_one (ps_ret (pe_ct (cs_intL T.nd) rfl T.n_int bt_int (pa_cons (pe_var (i := 0) rfl (Or.inl rfl) nd_text.1 nd_text.2) pa_nil))))))))), ?_⟩)
  rintro ds m K E - ⟨l, sg, rfl, hl, k⟩
  show Ws _ _ _ [some (ts l), some (.bl sg), none, none] _ _
  try dsimp only [cx_G, cx_K]
  walk_at "gn_2"
  refine Ws.cut (fun r' m' => m' = m ∧ r' = [some (ts l), some (.bl sg), some (ts (dgs sg l)), none]) ?_ ?_
  · refine ws_if ?_
    walk_at "gn_2"
    all_goals try unfold dgs
    all_goals first
      | omega
      | (rw [if_pos ⟨‹sg = true›, ‹l.head? = some 45›⟩]; rfl)
      | (rw [if_neg fun z => absurd z.2 ‹_›]; rfl)
      | (rw [if_neg fun z => Bool.noConfusion (z.1.symm.trans ‹sg = false›)]; rfl)
      | skip
  rintro r' m' ⟨rfl, rfl⟩
  have hd : (dgs sg l).length ≤ 100000 := by
    unfold dgs
    split
    · rw [List.length_drop]
      omega
    · exact hl
  walk_at "gn_2"
  refine ws_if ?_
  have no : ¬ okW sg l → K .non m' := fun h => by
    rcases k with ⟨a, _⟩ | ⟨_, k⟩
    · exact absurd a h
    · exact k
  walk_at "gn_2"
  all_goals try first
    | omega
    | exact no fun h => by
        have h1 := h.1
        have h2 := h.2.1
        omega
  refine ws_forI (wi_str (we_var (i := 2) (d := ts (dgs sg l)) rfl ⟨_, rfl, fun i r' m'' => m'' = m' ∧ (∃ o, r' = [some (ts l), some (.bl sg), some (ts (dgs sg l)), o]) ∧ ∀ c ∈ (dgs sg l).take i, c ∈ DIG, ⟨rfl, ⟨_, rfl⟩, by simp⟩, fun _ _ _ _ => Sub.nil, ?_, ?_⟩))
  · rintro i x r' m'' hx ⟨rfl, ⟨o, rfl⟩, hi⟩
    rw [List.getElem?_map] at hx
    obtain ⟨c, hc, rfl⟩ := Option.map_eq_some_iff.mp hx
    walk_at "gn_2"
    refine ws_if ?_
    walk_at "gn_2"
    · exact no fun h => ‹¬ _› (dig_iff.mpr (h.2.2.1 c (List.mem_of_getElem? hc)))
    · refine ⟨⟨_, rfl⟩, fun d hd => ?_⟩
      rw [List.take_add_one, hc] at hd
      rcases List.mem_append.mp hd with z | z
      · exact hi d z
      · simp at z
        rw [z]
        exact ‹c ∈ _›
  · rintro r' m'' ⟨rfl, ⟨o, rfl⟩, hi⟩
    rw [List.length_map, List.take_length] at hi
    walk_at "gn_2"
    have h1 : 1 ≤ (dgs sg l).length := by omega
    have h2 : (dgs sg l).length ≤ 2000 := by omega
    have h3 : AllDigits (dgs sg l) := fun c hc => dig_iff.mp (hi c hc)
    obtain ⟨c, dr, eD⟩ : ∃ c dr, dgs sg l = c :: dr := by
      cases e : dgs sg l with
      | nil => rw [e] at h1; simp at h1
      | cons c dr => exact ⟨c, dr, rfl⟩
    have yes : ((dgs sg l).head? = some 48 → l = [48]) → Wc (wF FF) (eF E) cIntL [ts l] [some (ts l), some (.bl sg), some (ts (dgs sg l)), o] m'' (pF K).rt := fun h4 => by
      have ok : okW sg l := ⟨h1, h2, h3, h4⟩
      have q := okW_int ok
      refine wc_intLT q.2 q.1 ?_
      rcases k with ⟨_, k⟩ | ⟨n, _⟩
      · exact k
      · exact absurd ok n
    refine ws_if ?_
    walk_at "gn_2"
    refine w2_ixS (c := c) (by omega) (by rw [eD]; exact atI_zero) ?_
    walk_at "gn_2"
    · exact no fun h => ‹¬ l = [48]› (h.2.2.2 (by rw [eD]; exact congrArg List.head? ‹[c] = [48]›))
    · exact yes fun z => ‹l = [48]›
    · exact yes fun z => absurd (by rw [eD] at z; injection z with z; rw [z]) ‹¬ [c] = [48]›
theorem use_whole {l : List Nat} {sg : Bool} {m : Mu} {K : KT} {E : Ex → Mu → Prop} (hl : l.length ≤ 100000) (h1 : okW sg l → K (.int (valW sg l)) m) (h2 : ¬ okW sg l → K .non m) : S_whole [ts l, .bl sg] m K E := by
  by_cases h : okW sg l
  · exact ⟨l, sg, rfl, hl, .inl ⟨h, h1 h⟩⟩
  · exact ⟨l, sg, rfl, hl, .inr ⟨h, h2 h⟩⟩
abbrev pq (C : Addr) (a b : Int) : D := .ins C ["top", "bottom"] [.int a, .int b]
theorem rq_low {C : Addr} {a b : Int} (hb : 0 < b) (g : Nat.gcd a.natAbs b.natAbs = 1) : rq C (dv a b) = pq C a b := by
  have r := rT_dv (t := a) (b := b) (by omega)
  have q := rat_low (t := a) (b := b) hb g
  show D.ins C _ [.int (dv a b).num, .int ((dv a b).den : Int)] = _
  rw [← r.1, ← r.2, q.1, q.2]
def S_read (C B : Addr) : SpecD := fun ds m K E => ∃ l, ds = [.ref C, ts l] ∧ l.length ≤ 100000 ∧ ((∃ a b, Rd l a b ∧ K (pq C a b) m) ∨ (NoRd l ∧ E ⟨B, ["given"], [ts l]⟩ m))
local macro_rules | `(tactic| walk_at "fld_3") => `(tactic| (with_reducible refine we_fldF ?_))
local macro_rules | `(tactic| walk_at "useWe_3") => `(tactic| first | (with_reducible refine we_mt ?_) | (with_reducible refine we_ratG ?_) | (with_reducible refine we_ratG1 ?_) | (with_reducible refine we_stw ?_) | (with_reducible refine we_prt ?_) | (with_reducible refine we_slXp ?_) | (with_reducible refine we_slXs ?_) | (with_reducible refine we_mkV rfl ?_) | (with_reducible refine we_cme ?_) | (with_reducible refine we_lst ?_) | fail)
local macro_rules | `(tactic| walk_at "sWe_3") => `(tactic| first
  | ((with_reducible refine we_var (d := ?d) ?hv ?hk); case hv => rfl)
  | (with_reducible first
    | refine we_cint ?_ | refine we_2 ?_ | refine we_cl0 ?_ | refine we_tup ?_ | refine we_1 ?_ | refine we_c2 ?_ | refine we_cbl ?_ | refine we_cnon ?_ | refine we_cty ?_ | refine we_cref ?_
    | refine we_op ?_ | refine we_andV ?_ | refine we_orV ?_ | refine we_notV ?_ | refine we_3 ?_ | refine we_ifx ?_ | refine we_cstr ?_ | refine we_clH ?_)
  | walk_at "fld_3"
  | walk_at "useWe_3")
local macro_rules | `(tactic| walk_at "useW2_3") => `(tactic| first | (with_reducible refine w2_addS ?_ ?_) | (with_reducible refine w2_eqS ?_) | (with_reducible refine w2_neS ?_) | (with_reducible refine w2_ninS ?_) | (with_reducible refine w2_powF ⟨?_, ?_⟩) | fail)
local macro_rules | `(tactic| walk_at "sW2_3") => `(tactic| first
  | (with_reducible first
    | refine w2_add ?_ | refine w2_sub ?_ | refine w2_mul ⟨?_, ?_⟩ | refine w2_fdiv ⟨?_, ?_⟩ | refine w2_mod ⟨?_, ?_⟩ | refine w2_pow ⟨?_, ?_⟩ | refine w2_eqI ?_ | refine w2_neI ?_ | refine w2_lt ?_ | refine w2_le ?_ | refine w2_gt ?_ | refine w2_ge ?_ | refine w2_eqFI ?_ | refine w2_neFI ?_)
  | ((with_reducible refine w2_ixT (d := ?d) ⟨?hv, ?hk⟩); case hv => rfl)
  | ((with_reducible refine w2_ixL (d := ?d) ⟨?hv, ?hk⟩); case hv => rfl)
  | ((with_reducible refine w2_ixM (d := ?d) .head ⟨?hv, ?hk⟩); case hv => rfl)
  | (with_reducible first
    | refine w2_eqIH ?_ | refine w2_neIH ?_ | refine w2_mulH ⟨?_, ?_⟩ | refine w2_addH ?_ | refine w2_subH ?_ | refine w2_isN ?_ | refine w2_notN ?_ | refine w2_isB ?_ | refine w2_notB ?_)
  | walk_at "useW2_3")
local macro_rules | `(tactic| walk_at "sWa_3") => `(tactic| with_reducible first | refine wa_nil ?_ | refine wa_cons ?_)
local macro_rules | `(tactic| walk_at "useWs_3") => `(tactic| first | (with_reducible refine ws_rs0 ?_) | (with_reducible refine ws_rs ?_) | fail)
local macro_rules | `(tactic| walk_at "sWs_3") => `(tactic| first
  | (with_reducible first | refine ws_seq ?_ | refine ws_ret ?_ | refine ws_asg ?_ | refine ws_next ?_ | refine ws_drop ?_ | refine ws_par ?_ | refine ws_par3 ?_ | refine ws_fldN ?_ | refine ws_brk ?_ | refine ws_cont ?_)
  | walk_at "useWs_3")
local macro_rules | `(tactic| walk_at "sWt_3") => `(tactic| with_reducible first | refine wt_test ?_ | refine wt_tr ?_ | refine wt_and ?_ | refine wt_or ?_ | refine wt_not ?_)
local macro_rules | `(tactic| walk_at "useWc_3") => `(tactic| first | (with_reducible refine wc_intLI ?_) | (with_reducible refine wc_lenS ?_ ?_) | (with_reducible refine wc_strL (by assumption) (by decide) ?_) | (with_reducible refine wc_isiT .str kit_ss ?_) | (with_reducible refine wc_isiC (.ins (by assumption)) (by assumption) ?_) | (with_reducible refine wc_absI ?_) | fail)
local macro_rules | `(tactic| walk_at "sWc_3") => `(tactic| first
  | (with_reducible first | refine wc_int ?_ | refine wc_abs ?_ | refine wc_min ?_ | refine wc_gcd ?_ | refine wc_isiT .int kit_ii ?_ | refine wc_isiT .int kit_ib ?_ | refine wc_len .lst ?_ | refine wc_len .tup ?_ | refine wc_strI ?_ ?_)
  | walk_at "useWc_3")
local macro_rules | `(tactic| walk_at "sWi_3") => `(tactic| fail)
local macro_rules | `(tactic| walk_at "sWg_3") => `(tactic| with_reducible first | refine wg_name ?_ | refine wg_subM ?_ | refine wg_tup rfl ?_)
local macro_rules | `(tactic| walk_at "sW1_3") => `(tactic| first | (with_reducible refine w1_neg ?_) | walk_at "useW2_3")
local macro_rules | `(tactic| walk_at "sWgs_3") => `(tactic| with_reducible first | refine wgs_cons ?_ | refine wgs_nil ?_)
local macro_rules | `(tactic| walk_at "sS_3") => `(tactic| fail)
local macro_rules | `(tactic| walk_at "useT_3") => `(tactic| first | (with_reducible refine mt_of0 (by assumption) (by decide) ?_) | (with_reducible refine RatG.mk ?_ ?_ ?_) | (with_reducible refine @And.intro (@LE.le _ _ _ _) _ ?_ ?_) | fail)
local macro_rules | `(tactic| walk_at "use_3") => `(tactic| first | (with_reducible refine use_whole ?_ (fun hw => ?_) (fun hw => ?_)) | walk_at "useT_3")
local macro_rules | `(tactic| walk_at "sX_3") => `(tactic| first
  | (with_reducible refine ⟨_, rfl, ?_⟩)
  | (with_reducible refine fld_top (by assumption) ?_) | (with_reducible refine fld_bottom (by assumption) ?_)
  | (with_reducible refine ⟨_, .bl, ?_⟩)
  | ((with_reducible refine ⟨?h, ?_⟩); case h => rfl)
  | (with_reducible refine ⟨_, _, rfl, ?_⟩)
  | (with_reducible refine ⟨_, _, _, rfl, ?_⟩)
  | walk_at "use_3"
  | (with_reducible refine setN_top (by assumption) ?_) | (with_reducible refine setN_bottom (by assumption) ?_)
  | ((with_reducible refine ⟨_, _, _, ?j, _, rfl, rfl, .head, ?h, .head, ?_⟩); case h => rfl)
  | fail)
local macro_rules | `(tactic| walk_at "st_3") => `(tactic| first
  | ((with_reducible show We _ _ _ _ _ _); walk_at "sWe_3")
  | ((with_reducible show W2 _ _ _ _ _ _ _ _); walk_at "sW2_3")
  | ((with_reducible show Wa _ _ _ _ _ _); walk_at "sWa_3")
  | ((with_reducible show Ws _ _ _ _ _ _); walk_at "sWs_3")
  | ((with_reducible show Wt _ _ _ _ _ _); walk_at "sWt_3")
  | ((with_reducible show Wc _ _ _ _ _ _ _); walk_at "sWc_3")
  | ((with_reducible show Wi _ _ _ _ _ _); walk_at "sWi_3")
  | ((with_reducible show Wg _ _ _ _ _ _ _); walk_at "sWg_3")
  | ((with_reducible show W1 _ _ _ _ _ _ _); walk_at "sW1_3")
  | ((with_reducible show Wgs _ _ _ _ _ _ _); walk_at "sWgs_3")
  | walk_at "sS_3" | walk_at "sX_3" | fail)
local macro_rules | `(tactic| walk_at "wif_3") => `(tactic| (with_reducible refine ws_if ?_))
local macro_rules | `(tactic| walk_at "br_3") => `(tactic| ((with_reducible refine ⟨fun hb => ?_, fun hb => ?_⟩) <;> (try simp only [decide_eq_true_eq, decide_eq_false_iff_not, Bool.not_eq_true', Bool.not_eq_false', Bool.and_eq_true, Bool.or_eq_true, reduceCtorEq, List.length_map, Bool.not_true, Bool.not_false, DL.isNon, not_true_eq_false, not_false_eq_true, Classical.not_not, List.all_cons, List.all_nil, id_eq, Bool.and_self, Bool.true_and, decide_true, decide_false] at hb)))
local macro_rules | `(tactic| walk_at "go_3") => `(tactic| repeat' (first | walk_at "st_3" | walk_at "wif_3" | walk_at "br_3" | fail))
theorem cut_len {l : List Nat} : (cutAt 47 l).1.length ≤ l.length ∧ (cutAt 47 l).2.2.length ≤ l.length := by
  have e := congrArg List.length (cut_join 47 l).1
  rw [List.length_append, List.length_append] at e
  omega
theorem ok_read (T : Txt G C_Ratio C_ZeroBottom C_BadNumber C_CarryError) (k1_Ratio : Mak G 1 "Ratio" C_Ratio 3 (S_ginit C_Ratio C_ZeroBottom) [.int 1]) (k_Ratio : Mak G 1 "Ratio" C_Ratio 3 (S_ginit C_Ratio C_ZeroBottom) []) (c_whole_of : Cal G 1 "whole_of" 2 S_whole []) {f : Addr} {fd : FuncData} (F : L2.Fun G.K "read" "Ratio.read" s_Ratio_read f fd) (b : L2.Binds G.K fd ["cls", "text"] []) : Fnx G 3 f 2 (S_read C_Ratio C_BadNumber) [] := by
  refine fnx_of F sc_Ratio_read rfl b .nil rfl (fun cdv A outer s H FF hr tk => ⟨_, (pss_cons (ps_if (pt_cm os_gt (pe_cb cs_len rfl T.n_len bt_len (pa_cons (pe_var (i := 1) rfl (Or.inl rfl) nd_text.1 nd_text.2) pa_nil)) (pe_gcD rfl T.gc_MOST_CHARACTERS) (nomark _)) (pss_one (ps_rs T.x_BadNumber rfl hr (by decide) tk rfl (pa_cons (pe_var (i := 1) rfl (Or.inl rfl) nd_text.1 nd_text.2) pa_nil))) pss_nil) (pss_cons (ps_asg (pe_prt (pe_var (i := 1) rfl (Or.inl rfl) nd_text.1 nd_text.2) (pe_strS (l := [47]) (by decide +kernel))) (pg_tup rfl (pgs_cons (pg_name (i := 2) sc_Ratio_read.nd rfl (Or.inl rfl)) (pgs_cons (pg_name (i := 3) sc_Ratio_read.nd rfl (Or.inl rfl)) (pgs_cons (pg_name (i := 4) sc_Ratio_read.nd rfl (Or.inl rfl)) pgs_nil))))) (pss_cons (ps_set (i := 5) sc_Ratio_read.nd rfl (Or.inl rfl) (pe_cl c_whole_of hr (by decide) tk rfl (pa_cons (pe_var (i := 2) rfl (Or.inl rfl) nd_written_top.1 nd_written_top.2) (pa_cons pe_bl pa_nil)))) (pss_cons (ps_if (pt_cm os_is (pe_var (i := 5) rfl (Or.inl rfl) nd_top.1 nd_top.2) pe_non (nomark _)) (pss_one (ps_rs T.x_BadNumber rfl hr (by decide) tk rfl (pa_cons (pe_var (i := 1) rfl (Or.inl rfl) nd_text.1 nd_text.2) pa_nil))) pss_nil) (pss_cons (ps_if (pt_cm (os_eqF hr tk) (pe_var (i := 3) rfl (Or.inl rfl) nd_slash.1 nd_slash.2) (pe_strS (l := []) (by decide +kernel)) (nomark _)) (pss_one (ps_ret (pe_makV (i := 0) k1_Ratio hr (by decide) tk rfl (Or.inl rfl) nd_cls.1 nd_cls.2 (pa_cons (pe_var (i := 5) rfl (Or.inl rfl) nd_top.1 nd_top.2) pa_nil)))) pss_nil) (pss_cons (ps_set (i := 6) sc_Ratio_read.nd rfl (Or.inl rfl) (pe_cl c_whole_of hr (by decide) tk rfl (pa_cons (pe_var (i := 4) rfl (Or.inl rfl) nd_written_bottom.1 nd_written_bottom.2) (pa_cons pe_bl pa_nil)))) (pss_cons (ps_if (PW.pt (pw_or (pt_cm os_is (pe_var (i := 6) rfl (Or.inl rfl) nd_bottom.1 nd_bottom.2) pe_non (nomark _)) (pw_or1 (pt_cm os_lt (pe_var (i := 6) rfl (Or.inl rfl) nd_bottom.1 nd_bottom.2) pe_int (nomark _))))) (pss_one (ps_rs T.x_BadNumber rfl hr (by decide) tk rfl (pa_cons (pe_var (i := 1) rfl (Or.inl rfl) nd_text.1 nd_text.2) pa_nil))) pss_nil) (pss_cons (ps_if (pt_cm os_gt (pe_cf cs_gcd rfl T.mg_gcd (pa_cons (pe_var (i := 5) rfl (Or.inl rfl) nd_top.1 nd_top.2) (pa_cons (pe_var (i := 6) rfl (Or.inl rfl) nd_bottom.1 nd_bottom.2) pa_nil))) pe_int (nomark _)) (pss_one (ps_rs T.x_BadNumber rfl hr (by decide) tk rfl (pa_cons (pe_var (i := 1) rfl (Or.inl rfl) nd_text.1 nd_text.2) pa_nil))) pss_nil) (pss_one (ps_ret (pe_makV (i := 0) k_Ratio hr (by decide) tk rfl (Or.inl rfl) nd_cls.1 nd_cls.2 (pa_cons (pe_var (i := 5) rfl (Or.inl rfl) nd_top.1 nd_top.2) (pa_cons (pe_var (i := 6) rfl (Or.inl rfl) nd_bottom.1 nd_bottom.2) pa_nil))))))))))))), ?_⟩)
  rintro ds m K E - ⟨l, rfl, hl, k⟩
  show Ws _ _ _ [some (.ref C_Ratio), some (ts l), none, none, none, none, none] _ _
  try dsimp only [cx_G, cx_K]
  have R := T.R_Ratio
  have cl := cut_len (l := l)
  have cj := cut_join 47 l
  have no : NoRd l → E ⟨C_BadNumber, ["given"], [ts l]⟩ m := fun h => by
    rcases k with ⟨a, b, r, _⟩ | ⟨_, k⟩
    · exact absurd r (h a b)
    · exact k
  have yes : ∀ a b, Rd l a b → K (pq C_Ratio a b) m := fun a b h => by
    rcases k with ⟨a', b', r, k⟩ | ⟨n, _⟩
    · obtain ⟨rfl, rfl⟩ := rd_one h r
      exact k
    · exact absurd h (n a b)
  have gg : ¬ valW false (cutAt 47 l).2.2 < 2 → ¬ 1 < (((valW true (cutAt 47 l).1).natAbs.gcd (valW false (cutAt 47 l).2.2).natAbs : Nat) : Int) → (valW true (cutAt 47 l).1).natAbs.gcd (valW false (cutAt 47 l).2.2).natAbs = 1 := fun h1 h2 => by
    have := Nat.gcd_pos_of_pos_right (valW true (cutAt 47 l).1).natAbs (show 0 < (valW false (cutAt 47 l).2.2).natAbs by omega)
    omega
  walk_at "go_3"
  all_goals try omega
  all_goals try first
    | exact yes _ _ ⟨by omega, ‹_›, rfl, .inl ⟨‹_›, rfl⟩⟩
    | exact dok_one (gg ‹_› ‹_›)
    | exact no fun a b h => by
        obtain ⟨h1, h2, h3, h4⟩ := h
        rcases h4 with ⟨s, _⟩ | ⟨_, h5, h6, h7, h8⟩
        · first | omega | exact absurd s ‹_› | exact absurd h2 ‹_›
        · subst h3 h6
          first | omega | exact absurd h5 ‹_› | exact absurd h2 ‹_›
  rw [rq_low (by omega) (gg ‹_› ‹_›)]
  exact yes _ _ ⟨by omega, ‹_›, rfl, .inr ⟨‹_›, ‹_›, rfl, by omega, gg ‹_› ‹_›⟩⟩
end
end K03
set_option Elab.async false
set_option linter.all false
set_option maxRecDepth 100000
/-! MF: Euclid's turns, counted by Fibonacci's numbers. -/
namespace DL
def fibp : Nat → Nat × Nat
  | 0 => (0, 1)
  | n + 1 => ((fibp n).2, (fibp n).1 + (fibp n).2)
def fb (n : Nat) : Nat := (fibp n).1
theorem fb_two (n : Nat) : fb (n + 2) = fb n + fb (n + 1) := rfl
/-- k turns from (.., b): (u, v) -/
def EuF (b k u v : Nat) : Prop := (k = 0 ∧ v = b) ∨ (∃ j, k = j + 1 ∧ v < u ∧ fb (j + 1) * u + fb j * v ≤ b)
theorem EuF.step {b k u v : Nat} (h : EuF b k u v) (hv : 0 < v) : EuF b (k + 1) v (u % v) := by
  have hm := Nat.mod_lt u hv
  rcases h with ⟨rfl, rfl⟩ | ⟨j, rfl, lt, le⟩
  · refine .inr ⟨0, rfl, hm, ?_⟩
    show 1 * v + 0 * _ ≤ v
    omega
  · refine .inr ⟨j + 1, rfl, hm, ?_⟩
    have e := Nat.div_add_mod u v
    have q : 1 ≤ u / v := (Nat.one_le_div_iff hv).mpr (by omega)
    have q2 : v * 1 ≤ v * (u / v) := Nat.mul_le_mul_left _ q
    have q3 : v + u % v ≤ u := by omega
    have q4 : fb (j + 1) * (v + u % v) ≤ fb (j + 1) * u := Nat.mul_le_mul_left _ q3
    rw [show fb (j + 1 + 1) = fb j + fb (j + 1) from fb_two j]
    rw [Nat.mul_add] at q4
    rw [Nat.add_mul]
    omega
theorem fb_big : 2 ^ 1000 ≤ fb 1500 := by decide +kernel
theorem EuF.early {b u v : Nat} (h : EuF b 1500 u v) (hb : b < 2 ^ 1000) : False := by
  rcases h with ⟨h, _⟩ | ⟨j, e, lt, le⟩
  · exact absurd h (by decide)
  · obtain rfl : j = 1499 := by omega
    have h1 : fb 1500 * 1 ≤ fb 1500 * u := Nat.mul_le_mul_left _ (by omega)
    have h2 := fb_big
    have h3 : fb (1499 + 1) = fb 1500 := rfl
    rw [h3] at le
    omega
theorem fb_mono (n : Nat) : fb (n + 1) ≤ fb (n + 2) := by
  rw [fb_two n]
  omega
theorem fb_pow : ∀ L : Nat, 2 ^ L ≤ fb (2 * L + 2)
  | 0 => by decide
  | L + 1 => by
    have e : 2 * (L + 1) + 2 = (2 * L + 2) + 2 := by omega
    rw [e, fb_two]
    have h := fb_pow L
    have m := fb_mono (2 * L + 1)
    have m' : fb (2 * L + 2) ≤ fb (2 * L + 2 + 1) := m
    rw [Nat.pow_succ]
    omega
theorem EuF.earlyL {b L u v : Nat} (h : EuF b (2 * L + 2) u v) (hb : b < 2 ^ L) : False := by
  rcases h with ⟨h, _⟩ | ⟨j, e, lt, le⟩
  · omega
  · obtain rfl : j = 2 * L + 1 := by omega
    have h1 : fb (2 * L + 1 + 1) * 1 ≤ fb (2 * L + 1 + 1) * u := Nat.mul_le_mul_left _ (by omega)
    have h2 := fb_pow L
    have h3 : fb (2 * L + 1 + 1) = fb (2 * L + 2) := rfl
    omega
theorem bits_lt (i : Int) : i.natAbs < 2 ^ PySem.Builtin.Int.intBits i := by
  unfold PySem.Builtin.Int.intBits
  split
  · simp_all
  · exact Nat.lt_log2_self
end DL
set_option Elab.async false
set_option linter.all false
set_option maxRecDepth 100000
set_option maxHeartbeats 4000000
namespace K03
open PySem PySem.Spec L2 DL
open PyProof.Rows hiding St
open SX (S)
open PySem.NumText (AllDigits digitsVal)
/-! one step, by the goal's head -/

/-! Ratio and Span by numbers: their promises used -/

/-! texts -/
local macro_rules | `(tactic| walk_at "fld_1") => `(tactic| (with_reducible refine we_fldF ?_))
local macro_rules | `(tactic| walk_at "useWe_1") => `(tactic| first | (with_reducible refine we_mt ?_) | (with_reducible refine we_ratG ?_) | (with_reducible refine we_ratG1 ?_) | (with_reducible refine we_stw ?_) | (with_reducible refine we_prt ?_) | (with_reducible refine we_slXp ?_) | (with_reducible refine we_slXs ?_) | (with_reducible refine we_mkV rfl ?_) | (with_reducible refine we_cme ?_) | (with_reducible refine we_lst ?_) | fail)
local macro_rules | `(tactic| walk_at "sWe_1") => `(tactic| first
  | ((with_reducible refine we_var (d := ?d) ?hv ?hk); case hv => rfl)
  | (with_reducible first
    | refine we_cint ?_ | refine we_2 ?_ | refine we_cl0 ?_ | refine we_tup ?_ | refine we_1 ?_ | refine we_c2 ?_ | refine we_cbl ?_ | refine we_cnon ?_ | refine we_cty ?_ | refine we_cref ?_
    | refine we_op ?_ | refine we_andV ?_ | refine we_orV ?_ | refine we_notV ?_ | refine we_3 ?_ | refine we_ifx ?_ | refine we_cstr ?_ | refine we_clH ?_)
  | walk_at "fld_1"
  | walk_at "useWe_1")
local macro_rules | `(tactic| walk_at "useW2_1") => `(tactic| first | (with_reducible refine w2_addS ?_ ?_) | (with_reducible refine w2_eqS ?_) | (with_reducible refine w2_neS ?_) | (with_reducible refine w2_ninS ?_) | (with_reducible refine w2_powF ⟨?_, ?_⟩) | fail)
local macro_rules | `(tactic| walk_at "sW2_1") => `(tactic| first
  | (with_reducible first
    | refine w2_add ?_ | refine w2_sub ?_ | refine w2_mul ⟨?_, ?_⟩ | refine w2_fdiv ⟨?_, ?_⟩ | refine w2_mod ⟨?_, ?_⟩ | refine w2_pow ⟨?_, ?_⟩ | refine w2_eqI ?_ | refine w2_neI ?_ | refine w2_lt ?_ | refine w2_le ?_ | refine w2_gt ?_ | refine w2_ge ?_ | refine w2_eqFI ?_ | refine w2_neFI ?_)
  | ((with_reducible refine w2_ixT (d := ?d) ⟨?hv, ?hk⟩); case hv => rfl)
  | ((with_reducible refine w2_ixL (d := ?d) ⟨?hv, ?hk⟩); case hv => rfl)
  | ((with_reducible refine w2_ixM (d := ?d) .head ⟨?hv, ?hk⟩); case hv => rfl)
  | (with_reducible first
    | refine w2_eqIH ?_ | refine w2_neIH ?_ | refine w2_mulH ⟨?_, ?_⟩ | refine w2_addH ?_ | refine w2_subH ?_ | refine w2_isN ?_ | refine w2_notN ?_ | refine w2_isB ?_ | refine w2_notB ?_)
  | walk_at "useW2_1")
local macro_rules | `(tactic| walk_at "sWa_1") => `(tactic| with_reducible first | refine wa_nil ?_ | refine wa_cons ?_)
local macro_rules | `(tactic| walk_at "useWs_1") => `(tactic| first | (with_reducible refine ws_rs0 ?_) | (with_reducible refine ws_rs ?_) | fail)
local macro_rules | `(tactic| walk_at "sWs_1") => `(tactic| first
  | (with_reducible first | refine ws_seq ?_ | refine ws_ret ?_ | refine ws_asg ?_ | refine ws_next ?_ | refine ws_drop ?_ | refine ws_par ?_ | refine ws_par3 ?_ | refine ws_fldN ?_ | refine ws_brk ?_ | refine ws_cont ?_)
  | walk_at "useWs_1")
local macro_rules | `(tactic| walk_at "sWt_1") => `(tactic| with_reducible first | refine wt_test ?_ | refine wt_tr ?_ | refine wt_and ?_ | refine wt_or ?_ | refine wt_not ?_)
local macro_rules | `(tactic| walk_at "useWc_1") => `(tactic| first | (with_reducible refine wc_intLI ?_) | (with_reducible refine wc_lenS ?_ ?_) | (with_reducible refine wc_strL (by assumption) (by decide) ?_) | (with_reducible refine wc_isiT .str kit_ss ?_) | (with_reducible refine wc_isiC (.ins (by assumption)) (by assumption) ?_) | (with_reducible refine wc_absI ?_) | fail)
local macro_rules | `(tactic| walk_at "sWc_1") => `(tactic| first
  | (with_reducible first | refine wc_int ?_ | refine wc_abs ?_ | refine wc_min ?_ | refine wc_gcd ?_ | refine wc_isiT .int kit_ii ?_ | refine wc_isiT .int kit_ib ?_ | refine wc_len .lst ?_ | refine wc_len .tup ?_ | refine wc_strI ?_ ?_)
  | walk_at "useWc_1")
local macro_rules | `(tactic| walk_at "sWi_1") => `(tactic| fail)
local macro_rules | `(tactic| walk_at "sWg_1") => `(tactic| with_reducible first | refine wg_name ?_ | refine wg_subM ?_ | refine wg_tup rfl ?_)
local macro_rules | `(tactic| walk_at "sW1_1") => `(tactic| first | (with_reducible refine w1_neg ?_) | walk_at "useW2_1")
local macro_rules | `(tactic| walk_at "sWgs_1") => `(tactic| with_reducible first | refine wgs_cons ?_ | refine wgs_nil ?_)
local macro_rules | `(tactic| walk_at "sS_1") => `(tactic| fail)
local macro_rules | `(tactic| walk_at "useT_1") => `(tactic| first | (with_reducible refine mt_of0 (by assumption) (by decide) ?_) | (with_reducible refine RatG.mk ?_ ?_ ?_) | (with_reducible refine @And.intro (@LE.le _ _ _ _) _ ?_ ?_) | fail)
local macro_rules | `(tactic| walk_at "use_1") => `(tactic| walk_at "useT_1")
local macro_rules | `(tactic| walk_at "sX_1") => `(tactic| first
  | (with_reducible refine ⟨_, rfl, ?_⟩)
  | (with_reducible refine fld_top (by assumption) ?_) | (with_reducible refine fld_bottom (by assumption) ?_)
  | (with_reducible refine ⟨_, .bl, ?_⟩)
  | ((with_reducible refine ⟨?h, ?_⟩); case h => rfl)
  | (with_reducible refine ⟨_, _, rfl, ?_⟩)
  | (with_reducible refine ⟨_, _, _, rfl, ?_⟩)
  | walk_at "use_1"
  | (with_reducible refine setN_top (by assumption) ?_) | (with_reducible refine setN_bottom (by assumption) ?_)
  | ((with_reducible refine ⟨_, _, _, ?j, _, rfl, rfl, .head, ?h, .head, ?_⟩); case h => rfl)
  | fail)
local macro_rules | `(tactic| walk_at "st_1") => `(tactic| first
  | ((with_reducible show We _ _ _ _ _ _); walk_at "sWe_1")
  | ((with_reducible show W2 _ _ _ _ _ _ _ _); walk_at "sW2_1")
  | ((with_reducible show Wa _ _ _ _ _ _); walk_at "sWa_1")
  | ((with_reducible show Ws _ _ _ _ _ _); walk_at "sWs_1")
  | ((with_reducible show Wt _ _ _ _ _ _); walk_at "sWt_1")
  | ((with_reducible show Wc _ _ _ _ _ _ _); walk_at "sWc_1")
  | ((with_reducible show Wi _ _ _ _ _ _); walk_at "sWi_1")
  | ((with_reducible show Wg _ _ _ _ _ _ _); walk_at "sWg_1")
  | ((with_reducible show W1 _ _ _ _ _ _ _); walk_at "sW1_1")
  | ((with_reducible show Wgs _ _ _ _ _ _ _); walk_at "sWgs_1")
  | walk_at "sS_1" | walk_at "sX_1" | fail)
local macro_rules | `(tactic| walk_at "wif_1") => `(tactic| (with_reducible refine ws_if ?_))
local macro_rules | `(tactic| walk_at "br_1") => `(tactic| ((with_reducible refine ⟨fun hb => ?_, fun hb => ?_⟩) <;> (try simp only [decide_eq_true_eq, decide_eq_false_iff_not, Bool.not_eq_true', Bool.not_eq_false', Bool.and_eq_true, Bool.or_eq_true, reduceCtorEq, List.length_map, Bool.not_true, Bool.not_false, DL.isNon, not_true_eq_false, not_false_eq_true, Classical.not_not, List.all_cons, List.all_nil, id_eq, Bool.and_self, Bool.true_and, decide_true, decide_false] at hb)))
local macro_rules | `(tactic| walk_at "go_1") => `(tactic| repeat' (first | walk_at "st_1" | walk_at "wif_1" | walk_at "br_1" | fail))
local macro_rules | `(tactic| walk_at "dl_1") => `(tactic| repeat (first | walk_at "st_1" | walk_at "wif_1" | fail))

theorem e60 : (10 : Int) ^ Int.toNat 60 = 1000000000000000000000000000000000000000000000000000000000000 := by decide +kernel
theorem e12 : (10 : Int) ^ Int.toNat 12 = 1000000000000 := by decide +kernel
theorem e9 : (10 : Int) ^ Int.toNat 9 = 1000000000 := by decide +kernel
theorem cp60 : CPow 10 60 := by
  unfold CPow
  decide +kernel
theorem cp12 : CPow 10 12 := by
  unfold CPow
  decide +kernel
theorem cp9 : CPow 10 9 := by
  unfold CPow
  decide +kernel
theorem bd_big {b : Int} (k : 0 < b) (l : b ≤ 1000000000000000000000000000000000000000000000000000000000000) : Bd 1000 b := by
  have h : (1000000000000000000000000000000000000000000000000000000000000 : Nat) < 2 ^ 1000 := by decide +kernel
  unfold Bd
  omega
theorem dg_big {b : Int} (l : b.natAbs ≤ 1000000000000000000000000000000000000000000000000000000000000) : Dg 61 b := ⟨by
  have h : (1000000000000000000000000000000000000000000000000000000000000 : Nat) < 10 ^ 61 := by decide +kernel
  omega⟩
abbrev pr (a b : Int) : D := .tup [.int a, .int b]
/-- a fraction in lowest terms, of a size -/
structure Lw (a b : Int) : Prop where
  pos : 1 ≤ b
  co : Nat.gcd a.natAbs b.natAbs = 1
  da : Dg 998 a
  db : Dg 999 b
theorem lw_dv {a b : Int} (hb : 0 < b) (la : a.natAbs ≤ 1000000000000000000000000000000000000000000000000000000000000) (lb : b ≤ 1000000000000000000000000000000000000000000000000000000000000) : Lw (dv a b).num ((dv a b).den : Int) := by
  have gp := gc_pos (t := a) (b := b) (by omega)
  have r := rT_dv (t := a) (b := b) (by omega)
  have e1 : (dv a b).num = a / gc a b := by
    rw [← r.1]
    unfold rT
    rw [if_neg (by omega)]
  have e2 : ((dv a b).den : Int) = b / gc a b := by
    rw [← r.2]
    unfold rB
    rw [if_neg (by omega)]
  have d := (dv a b).den_pos
  refine ⟨by omega, (dv a b).reduced, (dg_big ?_).mono (by decide), (dg_big ?_).mono (by decide)⟩
  · rw [e1]
    exact Nat.le_trans (Int.natAbs_ediv_le_natAbs _ _) la
  · rw [e2]
    exact Nat.le_trans (Int.natAbs_ediv_le_natAbs _ _) (by omega)
theorem lw_next {n : Nat} (h : Dg 998 (n : Int)) : Lw n (n + 1) ∧ Lw (-n) (n + 1) := by
  have g : Nat.gcd n (n + 1) = 1 := by simp
  have e1 : ((n : Int) + 1).natAbs = n + 1 := by omega
  exact ⟨⟨by omega, by rw [e1, Int.natAbs_natCast]; exact g, h, h.succ⟩, ⟨by omega, by rw [e1, Int.natAbs_neg, Int.natAbs_natCast]; exact g, h.neg, h.succ⟩⟩
section
variable {G : Gx} {C_Ratio C_ZeroBottom C_BadNumber C_CarryError : Addr}
theorem ok_digit (T : Txt G C_Ratio C_ZeroBottom C_BadNumber C_CarryError) {f : Addr} {fd : FuncData} (F : L2.Fun G.K "_law_digit" "_law_digit" s__law_digit f fd) (b : Binds G.K fd ["pot", "many"] []) : Fnx G 1 f 2 S_digit [] := by
  refine fnx_of F sc__law_digit rfl b .nil rfl (fun cdv A outer s H FF hr tk => ⟨_, (pss_cons (ps_if (PW.pt (pw_and (pt_cm (os_eqF hr tk) (pe_ix ix_seq (pe_var (i := 0) rfl (Or.inl rfl) nd_pot.1 nd_pot.2) pe_int (fun _ _ => rfl)) pe_int (nomark _)) (pw_and1 (pt_cm os_lt (pe_ix ix_seq (pe_var (i := 0) rfl (Or.inl rfl) nd_pot.1 nd_pot.2) pe_int (fun _ _ => rfl)) (pe_cb cs_len rfl T.n_len bt_len (pa_cons (pe_ix ix_seq (pe_var (i := 0) rfl (Or.inl rfl) nd_pot.1 nd_pot.2) pe_int (fun _ _ => rfl)) pa_nil)) (nomark _))))) (pss_cons (ps_asg (pe_ix ix_seq (pe_ix ix_seq (pe_var (i := 0) rfl (Or.inl rfl) nd_pot.1 nd_pot.2) pe_int (fun _ _ => rfl)) (pe_ix ix_seq (pe_var (i := 0) rfl (Or.inl rfl) nd_pot.1 nd_pot.2) pe_int (fun _ _ => rfl)) (fun _ _ => rfl)) (pg_sub (pe_var (i := 0) rfl (Or.inl rfl) nd_pot.1 nd_pot.2) pe_int set_list)) (pss_one (ps_asg (pe_bin (os_add hr tk) (pe_ix ix_seq (pe_var (i := 0) rfl (Or.inl rfl) nd_pot.1 nd_pot.2) pe_int (fun _ _ => rfl)) pe_int) (pg_sub (pe_var (i := 0) rfl (Or.inl rfl) nd_pot.1 nd_pot.2) pe_int set_list)))) pss_nil) (pss_cons (ps_set (i := 2) sc__law_digit.nd rfl (Or.inl rfl) (pe_bin os_mod (pe_ct cs_int rfl T.n_int bt_int (pa_cons (pe_ix ix_seq (pe_var (i := 0) rfl (Or.inl rfl) nd_pot.1 nd_pot.2) pe_int (fun _ _ => rfl)) pa_nil)) (pe_var (i := 1) rfl (Or.inl rfl) nd_many.1 nd_many.2))) (pss_cons (ps_asg (pe_bin os_fdiv (pe_ix ix_seq (pe_var (i := 0) rfl (Or.inl rfl) nd_pot.1 nd_pot.2) pe_int (fun _ _ => rfl)) (pe_var (i := 1) rfl (Or.inl rfl) nd_many.1 nd_many.2)) (pg_sub (pe_var (i := 0) rfl (Or.inl rfl) nd_pot.1 nd_pot.2) pe_int set_list)) (pss_one (ps_ret (pe_var (i := 2) rfl (Or.inl rfl) nd_digit.1 nd_digit.2)))))), ?_⟩)
  rintro ds m K E - ⟨p, many, m0, rfl, h0, hb, ⟨cs, i, r, rfl, hi, hrr, hcs⟩, k⟩
  show Ws _ _ _ [some (.ref p), some (.int many), none] _ _
  dsimp only [cx_G, cx_K]
  have fin : ∀ (cs : List Int) (i r : Int), 0 ≤ i → 0 ≤ r → (∀ c ∈ cs, 0 ≤ c) → K (.int (r.fmod many)) ((p, .lst [.lst (cs.map D.int), .int i, .int (r.fdiv many)]) :: m0) := fun cs i r hi hr hc => by
    rw [Int.fmod_eq_emod_of_nonneg _ (by omega), Int.fdiv_eq_ediv_of_nonneg _ (by omega)]
    exact k _ _ (Int.emod_nonneg _ (by omega)) (Int.emod_lt_of_pos _ h0) ⟨cs, i, _, rfl, hi, Int.ediv_nonneg hr (by omega), hc⟩
  have hne : many ≠ 0 := by omega
  have hdv : CDivX r many := hb.divX hne (by decide)
  walk_at "go_1"
  · obtain ⟨c, hc, hat⟩ := atI_ints hi ‹i < _›
    refine w2_ixL ⟨hat, ?_⟩
    walk_at "go_1"
    · exact hne
    · exact hb.divX hne (by decide)
    · exact fin _ _ _ (by omega) (hcs _ hc) hcs
  all_goals first | exact hne | exact hdv | exact fin _ _ _ hi hrr hcs
theorem cut_pot {ns : List Int} (h : ns.length ≤ 63) : cutD (ns.map D.int) none (some 63) = ns.map D.int := cut63 (by rw [List.length_map]; exact h)
def dabs : D → D
  | .int i => .int (i.natAbs : Int)
  | d => d
theorem ok_pot (T : Txt G C_Ratio C_ZeroBottom C_BadNumber C_CarryError) {f : Addr} {fd : FuncData} (F : L2.Fun G.K "_law_start" "_law_start" s__law_start f fd) (b : L2.Binds G.K fd ["script"] []) : Fnx G 1 f 1 (S_pot G.K) [] := by
  refine fnx_of F sc__law_start rfl b .nil rfl (fun cdv A outer s H FF hr tk => ⟨_, (pss_one (ps_ret (pe_lst (pa_cons (pe_lc (own := [("cell", 1)]) (g := (gName 1)) (tt := tYes) rfl sc__law_start.nd (pi_seqK (KK := G.K) (by rfl) (pe_slice sl_list (pe_var (i := 0) rfl (Or.inl rfl) nd_script.1 nd_script.2) po_none (po_some pe_int))) (blkOk_by (N := N__law_start) (sc := (defScope s__law_start)) (by decide +kernel)) (fun _ _ _ _ _ => (pg_name (i := 1) sc__law_start.nd rfl (Or.inl rfl))) (fun _ _ _ _ _ => pts_nil) (fun _ _ _ _ _ => (pe_cb cs_abs rfl T.n_abs bt_abs (pa_cons (pe_var (i := 1) rfl (Or.inl rfl) nd_cell.1 nd_cell.2) pa_nil)))) (pa_cons pe_int (pa_cons pe_int pa_nil)))))), ?_⟩)
  rintro ds m K E - ⟨d, ns, rfl, sd, hl, k⟩
  show Ws _ _ _ [some d, none] _ _
  dsimp only [cx_G, cx_K]
  refine ws_ret (we_lstM (wa_cons (we_lcm (f := dabs) (we_slS ?_))))
  walk_at "dl_1"
  refine ⟨ns, sd, wo_none (wo_some ?_)⟩
  walk_at "dl_1"
  rw [cut_pot hl]
  refine ⟨_, .lst, by rw [List.length_map]; exact Nat.ble_eq_true_of_le (by omega), ?_, ?_⟩
  · intro x hx q K2 hk
    obtain ⟨i, hi, rfl⟩ := List.mem_map.mp hx
    walk_at "dl_1"
    exact hk
  · walk_at "dl_1"
    intro p hp
    have e : (ns.map D.int).map dabs = (ns.map fun i => (i.natAbs : Int)).map D.int := by
      rw [List.map_map, List.map_map]; rfl
    refine k p _ hp ⟨_, 0, 0, by rw [e], by omega, by omega, fun c hc => ?_⟩
    obtain ⟨i, _, rfl⟩ := List.mem_map.mp hc
    omega

local macro_rules | `(tactic| walk_at "fld_2") => `(tactic| (with_reducible refine we_fldF ?_))
local macro_rules | `(tactic| walk_at "useWe_2") => `(tactic| first | (with_reducible refine we_mt ?_) | (with_reducible refine we_ratG ?_) | (with_reducible refine we_ratG1 ?_) | (with_reducible refine we_stw ?_) | (with_reducible refine we_prt ?_) | (with_reducible refine we_slXp ?_) | (with_reducible refine we_slXs ?_) | (with_reducible refine we_mkV rfl ?_) | (with_reducible refine we_cme ?_) | (with_reducible refine we_lst ?_) | fail)
local macro_rules | `(tactic| walk_at "sWe_2") => `(tactic| first
  | ((with_reducible refine we_var (d := ?d) ?hv ?hk); case hv => rfl)
  | (with_reducible first
    | refine we_cint ?_ | refine we_2 ?_ | refine we_cl0 ?_ | refine we_tup ?_ | refine we_1 ?_ | refine we_c2 ?_ | refine we_cbl ?_ | refine we_cnon ?_ | refine we_cty ?_ | refine we_cref ?_
    | refine we_op ?_ | refine we_andV ?_ | refine we_orV ?_ | refine we_notV ?_ | refine we_3 ?_ | refine we_ifx ?_ | refine we_cstr ?_ | refine we_clH ?_)
  | walk_at "fld_2"
  | walk_at "useWe_2")
local macro_rules | `(tactic| walk_at "useW2_2") => `(tactic| first | (with_reducible refine w2_addS ?_ ?_) | (with_reducible refine w2_eqS ?_) | (with_reducible refine w2_neS ?_) | (with_reducible refine w2_ninS ?_) | (with_reducible refine w2_powF ⟨?_, ?_⟩) | fail)
local macro_rules | `(tactic| walk_at "sW2_2") => `(tactic| first
  | (with_reducible first
    | refine w2_add ?_ | refine w2_sub ?_ | refine w2_mul ⟨?_, ?_⟩ | refine w2_fdiv ⟨?_, ?_⟩ | refine w2_mod ⟨?_, ?_⟩ | refine w2_pow ⟨?_, ?_⟩ | refine w2_eqI ?_ | refine w2_neI ?_ | refine w2_lt ?_ | refine w2_le ?_ | refine w2_gt ?_ | refine w2_ge ?_ | refine w2_eqFI ?_ | refine w2_neFI ?_)
  | ((with_reducible refine w2_ixT (d := ?d) ⟨?hv, ?hk⟩); case hv => rfl)
  | ((with_reducible refine w2_ixL (d := ?d) ⟨?hv, ?hk⟩); case hv => rfl)
  | ((with_reducible refine w2_ixM (d := ?d) .head ⟨?hv, ?hk⟩); case hv => rfl)
  | (with_reducible first
    | refine w2_eqIH ?_ | refine w2_neIH ?_ | refine w2_mulH ⟨?_, ?_⟩ | refine w2_addH ?_ | refine w2_subH ?_ | refine w2_isN ?_ | refine w2_notN ?_ | refine w2_isB ?_ | refine w2_notB ?_)
  | walk_at "useW2_2")
local macro_rules | `(tactic| walk_at "sWa_2") => `(tactic| with_reducible first | refine wa_nil ?_ | refine wa_cons ?_)
local macro_rules | `(tactic| walk_at "useWs_2") => `(tactic| first | (with_reducible refine ws_rs0 ?_) | (with_reducible refine ws_rs ?_) | fail)
local macro_rules | `(tactic| walk_at "sWs_2") => `(tactic| first
  | (with_reducible first | refine ws_seq ?_ | refine ws_ret ?_ | refine ws_asg ?_ | refine ws_next ?_ | refine ws_drop ?_ | refine ws_par ?_ | refine ws_par3 ?_ | refine ws_fldN ?_ | refine ws_brk ?_ | refine ws_cont ?_)
  | walk_at "useWs_2")
local macro_rules | `(tactic| walk_at "sWt_2") => `(tactic| with_reducible first | refine wt_test ?_ | refine wt_tr ?_ | refine wt_and ?_ | refine wt_or ?_ | refine wt_not ?_)
local macro_rules | `(tactic| walk_at "useWc_2") => `(tactic| first | (with_reducible refine wc_intLI ?_) | (with_reducible refine wc_lenS ?_ ?_) | (with_reducible refine wc_strL (by assumption) (by decide) ?_) | (with_reducible refine wc_isiT .str kit_ss ?_) | (with_reducible refine wc_isiC (.ins (by assumption)) (by assumption) ?_) | (with_reducible refine wc_absI ?_) | fail)
local macro_rules | `(tactic| walk_at "sWc_2") => `(tactic| first
  | (with_reducible first | refine wc_int ?_ | refine wc_abs ?_ | refine wc_min ?_ | refine wc_gcd ?_ | refine wc_isiT .int kit_ii ?_ | refine wc_isiT .int kit_ib ?_ | refine wc_len .lst ?_ | refine wc_len .tup ?_ | refine wc_strI ?_ ?_)
  | walk_at "useWc_2")
local macro_rules | `(tactic| walk_at "sWi_2") => `(tactic| fail)
local macro_rules | `(tactic| walk_at "sWg_2") => `(tactic| with_reducible first | refine wg_name ?_ | refine wg_subM ?_ | refine wg_tup rfl ?_)
local macro_rules | `(tactic| walk_at "sW1_2") => `(tactic| first | (with_reducible refine w1_neg ?_) | walk_at "useW2_2")
local macro_rules | `(tactic| walk_at "sWgs_2") => `(tactic| with_reducible first | refine wgs_cons ?_ | refine wgs_nil ?_)
local macro_rules | `(tactic| walk_at "sS_2") => `(tactic| fail)
local macro_rules | `(tactic| walk_at "useT_2") => `(tactic| first | (with_reducible refine mt_of0 (by assumption) (by decide) ?_) | (with_reducible refine RatG.mk ?_ ?_ ?_) | (with_reducible refine @And.intro (@LE.le _ _ _ _) _ ?_ ?_) | fail)
local macro_rules | `(tactic| walk_at "use_2") => `(tactic| first | (with_reducible refine use_digit ?_ ?_ (by assumption) fun dg m' d0 d1 hpm => ?_) | walk_at "useT_2")
local macro_rules | `(tactic| walk_at "sX_2") => `(tactic| first
  | (with_reducible refine ⟨_, rfl, ?_⟩)
  | (with_reducible refine fld_top (by assumption) ?_) | (with_reducible refine fld_bottom (by assumption) ?_)
  | (with_reducible refine ⟨_, .bl, ?_⟩)
  | ((with_reducible refine ⟨?h, ?_⟩); case h => rfl)
  | (with_reducible refine ⟨_, _, rfl, ?_⟩)
  | (with_reducible refine ⟨_, _, _, rfl, ?_⟩)
  | walk_at "use_2"
  | (with_reducible refine setN_top (by assumption) ?_) | (with_reducible refine setN_bottom (by assumption) ?_)
  | ((with_reducible refine ⟨_, _, _, ?j, _, rfl, rfl, .head, ?h, .head, ?_⟩); case h => rfl)
  | fail)
local macro_rules | `(tactic| walk_at "st_2") => `(tactic| first
  | ((with_reducible show We _ _ _ _ _ _); walk_at "sWe_2")
  | ((with_reducible show W2 _ _ _ _ _ _ _ _); walk_at "sW2_2")
  | ((with_reducible show Wa _ _ _ _ _ _); walk_at "sWa_2")
  | ((with_reducible show Ws _ _ _ _ _ _); walk_at "sWs_2")
  | ((with_reducible show Wt _ _ _ _ _ _); walk_at "sWt_2")
  | ((with_reducible show Wc _ _ _ _ _ _ _); walk_at "sWc_2")
  | ((with_reducible show Wi _ _ _ _ _ _); walk_at "sWi_2")
  | ((with_reducible show Wg _ _ _ _ _ _ _); walk_at "sWg_2")
  | ((with_reducible show W1 _ _ _ _ _ _ _); walk_at "sW1_2")
  | ((with_reducible show Wgs _ _ _ _ _ _ _); walk_at "sWgs_2")
  | walk_at "sS_2" | walk_at "sX_2" | fail)
local macro_rules | `(tactic| walk_at "wif_2") => `(tactic| (with_reducible refine ws_if ?_))
local macro_rules | `(tactic| walk_at "br_2") => `(tactic| ((with_reducible refine ⟨fun hb => ?_, fun hb => ?_⟩) <;> (try simp only [decide_eq_true_eq, decide_eq_false_iff_not, Bool.not_eq_true', Bool.not_eq_false', Bool.and_eq_true, Bool.or_eq_true, reduceCtorEq, List.length_map, Bool.not_true, Bool.not_false, DL.isNon, not_true_eq_false, not_false_eq_true, Classical.not_not, List.all_cons, List.all_nil, id_eq, Bool.and_self, Bool.true_and, decide_true, decide_false] at hb)))
local macro_rules | `(tactic| walk_at "go_2") => `(tactic| repeat' (first | walk_at "st_2" | walk_at "wif_2" | walk_at "br_2" | fail))
local macro_rules | `(tactic| walk_at "gn_2") => `(tactic| repeat' (first | walk_at "st_2" | walk_at "br_2" | fail))
abbrev prq (x : Rat) : D := pr x.num (x.den : Int)
def S_lowest : SpecD := fun ds m K _ => ∃ a b, ds = [.int a, .int b] ∧ 0 < b ∧ Bd 1000 b ∧ K (prq (dv a b)) m
theorem use_lowest {a b : Int} {m : Mu} {K : KT} {E : Ex → Mu → Prop} (h1 : 0 < b) (h2 : Bd 1000 b) (h : K (prq (dv a b)) m) : S_lowest [.int a, .int b] m K E := ⟨a, b, rfl, h1, h2, h⟩
theorem low_q {a b : Int} (hb : 0 < b) : a.fdiv (gc a b) = (dv a b).num ∧ b.fdiv (gc a b) = ((dv a b).den : Int) := by
  have gp := gc_pos (t := a) (b := b) (by omega)
  have r := rT_dv (t := a) (b := b) (by omega)
  constructor
  · rw [← r.1, fdiv_pos gp]
    unfold rT
    rw [if_neg (by omega)]
  · rw [← r.2, fdiv_pos gp]
    unfold rB
    rw [if_neg (by omega)]
theorem ok_lowest (T : Txt G C_Ratio C_ZeroBottom C_BadNumber C_CarryError) {f : Addr} {fd : FuncData} (F : L2.Fun G.K "_law_lowest" "_law_lowest" s__law_lowest f fd) (b : L2.Binds G.K fd ["top", "bottom"] []) : Fnx G 1 f 2 S_lowest [] := by
  refine fnx_of F sc__law_lowest rfl b .nil rfl (fun cdv A outer s H FF hr tk => ⟨_, (pss_cons (ps_set (i := 2) sc__law_lowest.nd rfl (Or.inl rfl) (pe_cb cs_abs rfl T.n_abs bt_abs (pa_cons (pe_var (i := 0) rfl (Or.inl rfl) nd_top.1 nd_top.2) pa_nil))) (pss_cons (ps_set (i := 3) sc__law_lowest.nd rfl (Or.inl rfl) (pe_var (i := 1) rfl (Or.inl rfl) nd_bottom.1 nd_bottom.2)) (pss_cons (ps_for (passes_of rfl) rfl (pi_range1 rfl T.n_range (pa_cons pe_int pa_nil)) (pg_name (i := 4) sc__law_lowest.nd rfl (Or.inl rfl)) (pss_cons (ps_if (pt_cm (os_eqF hr tk) (pe_var (i := 3) rfl (Or.inl rfl) nd_v.1 nd_v.2) pe_int (nomark _)) (pss_one ps_break) pss_nil) (pss_cons (ps_set (i := 5) sc__law_lowest.nd rfl (Or.inl rfl) (pe_bin os_mod (pe_ct cs_int rfl T.n_int bt_int (pa_cons (pe_var (i := 2) rfl (Or.inl rfl) nd_u.1 nd_u.2) pa_nil)) (pe_var (i := 3) rfl (Or.inl rfl) nd_v.1 nd_v.2))) (pss_cons (ps_set (i := 2) sc__law_lowest.nd rfl (Or.inl rfl) (pe_var (i := 3) rfl (Or.inl rfl) nd_v.1 nd_v.2)) (pss_one (ps_set (i := 3) sc__law_lowest.nd rfl (Or.inl rfl) (pe_var (i := 5) rfl (Or.inl rfl) nd_rest.1 nd_rest.2))))))) (pss_one (ps_ret (pe_tup (pa_cons (pe_bin os_fdiv (pe_var (i := 0) rfl (Or.inl rfl) nd_top.1 nd_top.2) (pe_var (i := 2) rfl (Or.inl rfl) nd_u.1 nd_u.2)) (pa_cons (pe_bin os_fdiv (pe_var (i := 1) rfl (Or.inl rfl) nd_bottom.1 nd_bottom.2) (pe_var (i := 2) rfl (Or.inl rfl) nd_u.1 nd_u.2)) pa_nil)))))))), ?_⟩)
  rintro ds m K E - ⟨a', b', rfl, hp, hb', k⟩
  show Ws _ _ _ [some (.int a'), some (.int b'), none, none, none, none] _ _
  dsimp only [cx_G, cx_K]
  have gp := gc_pos (t := a') (b := b') (by omega)
  have gb : Bd 1000 (gc a' b') := gc_bd (by omega) hb'
  have q := low_q (a := a') hp
  have dx : ∀ z, CDivX z (gc a' b') := fun z => gb.divX (by omega) (by decide)
  walk_at "go_2"
  refine ws_range1 ?_
  walk_at "go_2"
  refine ⟨1500, fun i r' m'' => m'' = m ∧ ∃ (u v : Nat) (o1 o2 : Option D), r' = [some (.int a'), some (.int b'), some (.int u), some (.int v), o1, o2] ∧ Nat.gcd u v = Nat.gcd a'.natAbs b'.natAbs ∧ EuF b'.natAbs i u v, rfl, by decide, ?_, ?_, ?_⟩
  · have eb : b' = ((b'.natAbs : Nat) : Int) := by omega
    refine ⟨rfl, a'.natAbs, b'.natAbs, _, _, by rw [← eb]; rfl, rfl, .inl ⟨rfl, rfl⟩⟩
  · rintro n r' m'' hn ⟨rfl, u, v, o1, o2, rfl, hg, he⟩
    have gz : v = 0 → (u : Int) = gc a' b' := fun h => by
      rw [h, Nat.gcd_zero_right] at hg
      rw [hg]
      rfl
    have uz : (v : Int) = 0 → (u : Int) = gc a' b' := fun h => gz (Int.natCast_eq_zero.mp h)
    walk_at "go_2"
    all_goals first
      | (rw [uz ‹_›]; exact dx _)
      | (rw [uz ‹_›, q.1, q.2]; exact k)
      | exact ‹¬ _›
      | skip
    have hy : 0 < v := by omega
    have e : ((u : Int).fmod (v : Int)) = ((u % v : Nat) : Int) := by
      rw [Int.fmod_eq_emod_of_nonneg _ (by omega)]
      exact (Int.natCast_emod u v).symm
    rw [e]
    refine ⟨v, u % v, _, _, rfl, ?_, he.step hy⟩
    rw [← hg, Nat.gcd_comm u v, Nat.gcd_rec v u, Nat.gcd_comm]
  · rintro r' m'' ⟨rfl, u, v, o1, o2, rfl, hg, he⟩
    exact (he.early hb').elim
theorem nine {x : Int} (h0 : 0 ≤ x) (h1 : x < 9) : ∃ c : Nat, atI [49, 50, 51, 52, 53, 54, 55, 56, 57] x = some c ∧ 49 ≤ c ∧ c ≤ 57 := by
  have hx : x = 0 ∨ x = 1 ∨ x = 2 ∨ x = 3 ∨ x = 4 ∨ x = 5 ∨ x = 6 ∨ x = 7 ∨ x = 8 := by omega
  rcases hx with rfl | rfl | rfl | rfl | rfl | rfl | rfl | rfl | rfl
  · exact ⟨49, rfl, by decide⟩
  · exact ⟨50, rfl, by decide⟩
  · exact ⟨51, rfl, by decide⟩
  · exact ⟨52, rfl, by decide⟩
  · exact ⟨53, rfl, by decide⟩
  · exact ⟨54, rfl, by decide⟩
  · exact ⟨55, rfl, by decide⟩
  · exact ⟨56, rfl, by decide⟩
  · exact ⟨57, rfl, by decide⟩
theorem flat_digits {l : List Nat} (h : AllDigits l) (n : Nat) : AllDigits (List.replicate n l).flatten := fun c hc => by
  obtain ⟨x, hx, hc⟩ := List.mem_flatten.mp hc
  rw [(List.mem_replicate.mp hx).2] at hc
  exact h c hc
theorem flat_len {l : List Nat} (n : Nat) : (List.replicate n l).flatten.length = n * l.length := by simp
def S_long : SpecD := fun ds m K _ => ∃ p m0, ds = [.ref p] ∧ PotM p m0 m ∧ ∀ a b m', Lw a b → PotM p m0 m' → K (pr a b) m'
theorem use_long {p : Addr} {m m0 : Mu} {K : KT} {E : Ex → Mu → Prop} (hm : PotM p m0 m) (h : ∀ a b m', Lw a b → PotM p m0 m' → K (pr a b) m') : S_long [.ref p] m K E := ⟨p, m0, rfl, hm, h⟩
theorem ok_long (T : Txt G C_Ratio C_ZeroBottom C_BadNumber C_CarryError) (c__law_digit : Cal G 1 "_law_digit" 2 S_digit []) {f : Addr} {fd : FuncData} (F : L2.Fun G.K "_law_long" "_law_long" s__law_long f fd) (b : L2.Binds G.K fd ["pot"] []) : Fnx G 2 f 1 S_long [] := by
  refine fnx_of F sc__law_long rfl b .nil rfl (fun cdv A outer s H FF hr tk => ⟨_, (pss_cons (ps_set (i := 1) sc__law_long.nd rfl (Or.inl rfl) (pe_bin (os_add hr tk) pe_int (pe_cl c__law_digit hr (by decide) tk rfl (pa_cons (pe_var (i := 0) rfl (Or.inl rfl) nd_pot.1 nd_pot.2) (pa_cons pe_int pa_nil))))) (pss_cons (ps_set (i := 2) sc__law_long.nd rfl (Or.inl rfl) (pe_ix ix_seq (pe_strS (l := [49, 50, 51, 52, 53, 54, 55, 56, 57]) (by decide +kernel)) (pe_cl c__law_digit hr (by decide) tk rfl (pa_cons (pe_var (i := 0) rfl (Or.inl rfl) nd_pot.1 nd_pot.2) (pa_cons pe_int pa_nil))) (fun _ _ => rfl))) (pss_cons (ps_set (i := 3) sc__law_long.nd rfl (Or.inl rfl) (pe_ct (cs_strL T.nd rfl) rfl T.n_str bt_str (pa_cons (pe_cl c__law_digit hr (by decide) tk rfl (pa_cons (pe_var (i := 0) rfl (Or.inl rfl) nd_pot.1 nd_pot.2) (pa_cons (pe_bin os_pow pe_int pe_int) pa_nil))) pa_nil))) (pss_cons (ps_set (i := 4) sc__law_long.nd rfl (Or.inl rfl) (pe_ct (cs_intL T.nd) rfl T.n_int bt_int (pa_cons (pe_slice sl_str (pe_bin (os_add hr tk) (pe_var (i := 2) rfl (Or.inl rfl) nd_first.1 nd_first.2) (pe_bin os_mulS (pe_var (i := 3) rfl (Or.inl rfl) nd_piece.1 nd_piece.2) pe_int)) po_none (po_some (pe_var (i := 1) rfl (Or.inl rfl) nd_size.1 nd_size.2))) pa_nil))) (pss_cons (ps_if (pt_cm (os_eqF hr tk) (pe_cl c__law_digit hr (by decide) tk rfl (pa_cons (pe_var (i := 0) rfl (Or.inl rfl) nd_pot.1 nd_pot.2) (pa_cons pe_int pa_nil))) pe_int (nomark _)) (pss_one (ps_ret (pe_tup (pa_cons (pe_una (us_neg hr tk) (pe_var (i := 4) rfl (Or.inl rfl) nd_n.1 nd_n.2)) (pa_cons (pe_bin (os_add hr tk) (pe_var (i := 4) rfl (Or.inl rfl) nd_n.1 nd_n.2) pe_int) pa_nil))))) pss_nil) (pss_one (ps_ret (pe_tup (pa_cons (pe_var (i := 4) rfl (Or.inl rfl) nd_n.1 nd_n.2) (pa_cons (pe_bin (os_add hr tk) (pe_var (i := 4) rfl (Or.inl rfl) nd_n.1 nd_n.2) pe_int) pa_nil)))))))))), ?_⟩)
  rintro ds m K E - ⟨p, m0, rfl, hm, k⟩
  show Ws _ _ _ [some (.ref p), none, none, none, none] _ _
  dsimp only [cx_G, cx_K]
  walk_at "gn_2"
  · decide
  · exact bd_lit (by decide)
  · decide
  · exact bd_lit (by decide)
  rename_i sz m1 s0 s1 hm1 dg m2 d0 d1 hm2
  obtain ⟨c, hc, c0, c1⟩ := nine d0 d1
  refine w2_ixS (c := c) (by decide) hc ?_
  walk_at "gn_2"
  · exact cp9
  · rw [e9]
    decide
  · rw [e9]
    exact bd_lit (by decide)
  rename_i pc m3 p0 p1 hm3
  rw [e9] at p1
  have t9 : (10 : Nat) ^ 9 = 1000000000 := by decide
  obtain ⟨q, rfl⟩ := Int.eq_ofNat_of_zero_le p0
  have dp : Dg 9 (q : Int) := ⟨by rw [t9]; omega⟩
  refine wc_strL dp (by decide) ?_
  rw [numS_nat]
  have lp := numL_le (k := 9) (by decide) (show q < 10 ^ 9 by rw [t9]; omega)
  have np := List.length_pos_iff.mpr (TL.numL_ne q)
  have ad := TL.numL_digits q
  generalize TL.numL q = pl at *
  have fl := flat_len (l := pl) 998
  have fd' := flat_digits ad 998
  walk_at "gn_2"
  refine w2_mulS 998 rfl (List.length_pos_iff.mp np) (by decide) (by omega) ?_
  generalize (List.replicate 998 pl).flatten = fp at *
  walk_at "gn_2"
  all_goals try (rw [List.length_singleton]; omega)
  all_goals try (rw [List.length_append, List.length_singleton]; omega)
  all_goals try omega
  obtain ⟨z, ez⟩ : ∃ z : Nat, (1 + sz).toNat = z + 1 := ⟨sz.toNat, by omega⟩
  rw [ez]
  have ll : (([c] ++ fp).take (z + 1)).length = z + 1 := by
    rw [List.length_take, List.length_append, List.length_singleton]
    omega
  have la : AllDigits (([c] ++ fp).take (z + 1)) := fun d hd => by
    rcases List.mem_append.mp (List.mem_of_mem_take hd) with h | h
    · rw [List.mem_singleton.mp h]
      omega
    · exact fd' d h
  generalize ([c] ++ fp).take (z + 1) = tt at *
  have hn : PySem.intText? (S tt) = some ((digitsVal tt : Nat) : Int) := PySem.intText_digits (x := S tt) la (by intro h; change tt = [] at h; rw [h] at ll; simp at ll) (by rw [SX.S_len]; omega)
  refine wc_intLT (by omega) hn ?_
  have dn := lw_next ((dg_digits la).mono (by omega : tt.length ≤ 998))
  walk_at "go_2"
  · decide
  · exact bd_lit (by decide)
  · exact k _ _ _ dn.2 ‹_›
  · exact k _ _ _ dn.1 ‹_›
def S_fraction : SpecD := S_long
theorem use_fraction {p : Addr} {m m0 : Mu} {K : KT} {E : Ex → Mu → Prop} (hm : PotM p m0 m) (h : ∀ a b m', Lw a b → PotM p m0 m' → K (pr a b) m') : S_fraction [.ref p] m K E := ⟨p, m0, rfl, hm, h⟩
local macro_rules | `(tactic| walk_at "fld_3") => `(tactic| (with_reducible refine we_fldF ?_))
local macro_rules | `(tactic| walk_at "useWe_3") => `(tactic| first | (with_reducible refine we_mt ?_) | (with_reducible refine we_ratG ?_) | (with_reducible refine we_ratG1 ?_) | (with_reducible refine we_stw ?_) | (with_reducible refine we_prt ?_) | (with_reducible refine we_slXp ?_) | (with_reducible refine we_slXs ?_) | (with_reducible refine we_mkV rfl ?_) | (with_reducible refine we_cme ?_) | (with_reducible refine we_lst ?_) | fail)
local macro_rules | `(tactic| walk_at "sWe_3") => `(tactic| first
  | ((with_reducible refine we_var (d := ?d) ?hv ?hk); case hv => rfl)
  | (with_reducible first
    | refine we_cint ?_ | refine we_2 ?_ | refine we_cl0 ?_ | refine we_tup ?_ | refine we_1 ?_ | refine we_c2 ?_ | refine we_cbl ?_ | refine we_cnon ?_ | refine we_cty ?_ | refine we_cref ?_
    | refine we_op ?_ | refine we_andV ?_ | refine we_orV ?_ | refine we_notV ?_ | refine we_3 ?_ | refine we_ifx ?_ | refine we_cstr ?_ | refine we_clH ?_)
  | walk_at "fld_3"
  | walk_at "useWe_3")
local macro_rules | `(tactic| walk_at "useW2_3") => `(tactic| first | (with_reducible refine w2_addS ?_ ?_) | (with_reducible refine w2_eqS ?_) | (with_reducible refine w2_neS ?_) | (with_reducible refine w2_ninS ?_) | (with_reducible refine w2_powF ⟨?_, ?_⟩) | fail)
local macro_rules | `(tactic| walk_at "sW2_3") => `(tactic| first
  | (with_reducible first
    | refine w2_add ?_ | refine w2_sub ?_ | refine w2_mul ⟨?_, ?_⟩ | refine w2_fdiv ⟨?_, ?_⟩ | refine w2_mod ⟨?_, ?_⟩ | refine w2_pow ⟨?_, ?_⟩ | refine w2_eqI ?_ | refine w2_neI ?_ | refine w2_lt ?_ | refine w2_le ?_ | refine w2_gt ?_ | refine w2_ge ?_ | refine w2_eqFI ?_ | refine w2_neFI ?_)
  | ((with_reducible refine w2_ixT (d := ?d) ⟨?hv, ?hk⟩); case hv => rfl)
  | ((with_reducible refine w2_ixL (d := ?d) ⟨?hv, ?hk⟩); case hv => rfl)
  | ((with_reducible refine w2_ixM (d := ?d) .head ⟨?hv, ?hk⟩); case hv => rfl)
  | (with_reducible first
    | refine w2_eqIH ?_ | refine w2_neIH ?_ | refine w2_mulH ⟨?_, ?_⟩ | refine w2_addH ?_ | refine w2_subH ?_ | refine w2_isN ?_ | refine w2_notN ?_ | refine w2_isB ?_ | refine w2_notB ?_)
  | walk_at "useW2_3")
local macro_rules | `(tactic| walk_at "sWa_3") => `(tactic| with_reducible first | refine wa_nil ?_ | refine wa_cons ?_)
local macro_rules | `(tactic| walk_at "useWs_3") => `(tactic| first | (with_reducible refine ws_rs0 ?_) | (with_reducible refine ws_rs ?_) | fail)
local macro_rules | `(tactic| walk_at "sWs_3") => `(tactic| first
  | (with_reducible first | refine ws_seq ?_ | refine ws_ret ?_ | refine ws_asg ?_ | refine ws_next ?_ | refine ws_drop ?_ | refine ws_par ?_ | refine ws_par3 ?_ | refine ws_fldN ?_ | refine ws_brk ?_ | refine ws_cont ?_)
  | walk_at "useWs_3")
local macro_rules | `(tactic| walk_at "sWt_3") => `(tactic| with_reducible first | refine wt_test ?_ | refine wt_tr ?_ | refine wt_and ?_ | refine wt_or ?_ | refine wt_not ?_)
local macro_rules | `(tactic| walk_at "useWc_3") => `(tactic| first | (with_reducible refine wc_intLI ?_) | (with_reducible refine wc_lenS ?_ ?_) | (with_reducible refine wc_strL (by assumption) (by decide) ?_) | (with_reducible refine wc_isiT .str kit_ss ?_) | (with_reducible refine wc_isiC (.ins (by assumption)) (by assumption) ?_) | (with_reducible refine wc_absI ?_) | fail)
local macro_rules | `(tactic| walk_at "sWc_3") => `(tactic| first
  | (with_reducible first | refine wc_int ?_ | refine wc_abs ?_ | refine wc_min ?_ | refine wc_gcd ?_ | refine wc_isiT .int kit_ii ?_ | refine wc_isiT .int kit_ib ?_ | refine wc_len .lst ?_ | refine wc_len .tup ?_ | refine wc_strI ?_ ?_)
  | walk_at "useWc_3")
local macro_rules | `(tactic| walk_at "sWi_3") => `(tactic| fail)
local macro_rules | `(tactic| walk_at "sWg_3") => `(tactic| with_reducible first | refine wg_name ?_ | refine wg_subM ?_ | refine wg_tup rfl ?_)
local macro_rules | `(tactic| walk_at "sW1_3") => `(tactic| first | (with_reducible refine w1_neg ?_) | walk_at "useW2_3")
local macro_rules | `(tactic| walk_at "sWgs_3") => `(tactic| with_reducible first | refine wgs_cons ?_ | refine wgs_nil ?_)
local macro_rules | `(tactic| walk_at "sS_3") => `(tactic| fail)
local macro_rules | `(tactic| walk_at "useT_3") => `(tactic| first | (with_reducible refine mt_of0 (by assumption) (by decide) ?_) | (with_reducible refine RatG.mk ?_ ?_ ?_) | (with_reducible refine @And.intro (@LE.le _ _ _ _) _ ?_ ?_) | fail)
local macro_rules | `(tactic| walk_at "use_3") => `(tactic| first | (with_reducible refine use_digit ?_ ?_ (by assumption) fun dg m' d0 d1 hpm => ?_) | (with_reducible refine use_lowest ?_ ?_ ?_) | walk_at "useT_3")
local macro_rules | `(tactic| walk_at "sX_3") => `(tactic| first
  | (with_reducible refine ⟨_, rfl, ?_⟩)
  | (with_reducible refine fld_top (by assumption) ?_) | (with_reducible refine fld_bottom (by assumption) ?_)
  | (with_reducible refine ⟨_, .bl, ?_⟩)
  | ((with_reducible refine ⟨?h, ?_⟩); case h => rfl)
  | (with_reducible refine ⟨_, _, rfl, ?_⟩)
  | (with_reducible refine ⟨_, _, _, rfl, ?_⟩)
  | walk_at "use_3"
  | (with_reducible refine setN_top (by assumption) ?_) | (with_reducible refine setN_bottom (by assumption) ?_)
  | ((with_reducible refine ⟨_, _, _, ?j, _, rfl, rfl, .head, ?h, .head, ?_⟩); case h => rfl)
  | fail)
local macro_rules | `(tactic| walk_at "st_3") => `(tactic| first
  | ((with_reducible show We _ _ _ _ _ _); walk_at "sWe_3")
  | ((with_reducible show W2 _ _ _ _ _ _ _ _); walk_at "sW2_3")
  | ((with_reducible show Wa _ _ _ _ _ _); walk_at "sWa_3")
  | ((with_reducible show Ws _ _ _ _ _ _); walk_at "sWs_3")
  | ((with_reducible show Wt _ _ _ _ _ _); walk_at "sWt_3")
  | ((with_reducible show Wc _ _ _ _ _ _ _); walk_at "sWc_3")
  | ((with_reducible show Wi _ _ _ _ _ _); walk_at "sWi_3")
  | ((with_reducible show Wg _ _ _ _ _ _ _); walk_at "sWg_3")
  | ((with_reducible show W1 _ _ _ _ _ _ _); walk_at "sW1_3")
  | ((with_reducible show Wgs _ _ _ _ _ _ _); walk_at "sWgs_3")
  | walk_at "sS_3" | walk_at "sX_3" | fail)
local macro_rules | `(tactic| walk_at "wif_3") => `(tactic| (with_reducible refine ws_if ?_))
local macro_rules | `(tactic| walk_at "br_3") => `(tactic| ((with_reducible refine ⟨fun hb => ?_, fun hb => ?_⟩) <;> (try simp only [decide_eq_true_eq, decide_eq_false_iff_not, Bool.not_eq_true', Bool.not_eq_false', Bool.and_eq_true, Bool.or_eq_true, reduceCtorEq, List.length_map, Bool.not_true, Bool.not_false, DL.isNon, not_true_eq_false, not_false_eq_true, Classical.not_not, List.all_cons, List.all_nil, id_eq, Bool.and_self, Bool.true_and, decide_true, decide_false] at hb)))
local macro_rules | `(tactic| walk_at "go_3") => `(tactic| repeat' (first | walk_at "st_3" | walk_at "wif_3" | walk_at "br_3" | fail))
theorem ok_fraction (T : Txt G C_Ratio C_ZeroBottom C_BadNumber C_CarryError) (c__law_digit : Cal G 1 "_law_digit" 2 S_digit []) (c__law_long : Cal G 2 "_law_long" 1 S_long []) (c__law_lowest : Cal G 1 "_law_lowest" 2 S_lowest []) {f : Addr} {fd : FuncData} (F : L2.Fun G.K "_law_fraction" "_law_fraction" s__law_fraction f fd) (b : L2.Binds G.K fd ["pot"] []) : Fnx G 3 f 1 S_fraction [] := by
  refine fnx_of F sc__law_fraction rfl b .nil rfl (fun cdv A outer s H FF hr tk => ⟨_, (pss_cons (ps_set (i := 1) sc__law_fraction.nd rfl (Or.inl rfl) (pe_cl c__law_digit hr (by decide) tk rfl (pa_cons (pe_var (i := 0) rfl (Or.inl rfl) nd_pot.1 nd_pot.2) (pa_cons pe_int pa_nil)))) (pss_cons (ps_if (pt_cm (os_eqF hr tk) (pe_var (i := 1) rfl (Or.inl rfl) nd_kind.1 nd_kind.2) pe_int (nomark _)) (pss_one (ps_ret (pe_tup (pa_cons pe_int (pa_cons pe_int pa_nil))))) pss_nil) (pss_cons (ps_if (pt_cm (os_eqF hr tk) (pe_var (i := 1) rfl (Or.inl rfl) nd_kind.1 nd_kind.2) pe_int (nomark _)) (pss_one (ps_ret (pe_cl c__law_long hr (by decide) tk rfl (pa_cons (pe_var (i := 0) rfl (Or.inl rfl) nd_pot.1 nd_pot.2) pa_nil)))) pss_nil) (pss_cons (ps_if (pt_cm (os_eqF hr tk) (pe_var (i := 1) rfl (Or.inl rfl) nd_kind.1 nd_kind.2) pe_int (nomark _)) (pss_cons (ps_set (i := 2) sc__law_fraction.nd rfl (Or.inl rfl) (pe_bin (os_sub hr tk) (pe_cl c__law_digit hr (by decide) tk rfl (pa_cons (pe_var (i := 0) rfl (Or.inl rfl) nd_pot.1 nd_pot.2) (pa_cons (pe_bin (os_add hr tk) (pe_bin (os_mul hr tk) pe_int (pe_bin os_pow pe_int pe_int)) pe_int) pa_nil))) (pe_bin os_pow pe_int pe_int))) (pss_one (ps_ret (pe_cl c__law_lowest hr (by decide) tk rfl (pa_cons (pe_var (i := 2) rfl (Or.inl rfl) nd_top.1 nd_top.2) (pa_cons (pe_bin (os_add hr tk) pe_int (pe_cl c__law_digit hr (by decide) tk rfl (pa_cons (pe_var (i := 0) rfl (Or.inl rfl) nd_pot.1 nd_pot.2) (pa_cons (pe_bin os_pow pe_int pe_int) pa_nil)))) pa_nil)))))) pss_nil) (pss_cons (ps_if (pt_cm (os_eqF hr tk) (pe_var (i := 1) rfl (Or.inl rfl) nd_kind.1 nd_kind.2) pe_int (nomark _)) (pss_cons (ps_set (i := 2) sc__law_fraction.nd rfl (Or.inl rfl) (pe_bin (os_sub hr tk) (pe_cl c__law_digit hr (by decide) tk rfl (pa_cons (pe_var (i := 0) rfl (Or.inl rfl) nd_pot.1 nd_pot.2) (pa_cons (pe_bin (os_add hr tk) (pe_bin (os_mul hr tk) pe_int (pe_bin os_pow pe_int pe_int)) pe_int) pa_nil))) (pe_bin os_pow pe_int pe_int))) (pss_one (ps_ret (pe_cl c__law_lowest hr (by decide) tk rfl (pa_cons (pe_var (i := 2) rfl (Or.inl rfl) nd_top.1 nd_top.2) (pa_cons (pe_bin (os_add hr tk) pe_int (pe_cl c__law_digit hr (by decide) tk rfl (pa_cons (pe_var (i := 0) rfl (Or.inl rfl) nd_pot.1 nd_pot.2) (pa_cons (pe_bin os_pow pe_int pe_int) pa_nil)))) pa_nil)))))) pss_nil) (pss_cons (ps_if (pt_cm (os_eqF hr tk) (pe_var (i := 1) rfl (Or.inl rfl) nd_kind.1 nd_kind.2) pe_int (nomark _)) (pss_cons (ps_set (i := 2) sc__law_fraction.nd rfl (Or.inl rfl) (pe_bin (os_sub hr tk) (pe_cl c__law_digit hr (by decide) tk rfl (pa_cons (pe_var (i := 0) rfl (Or.inl rfl) nd_pot.1 nd_pot.2) (pa_cons pe_int pa_nil))) pe_int)) (pss_one (ps_ret (pe_cl c__law_lowest hr (by decide) tk rfl (pa_cons (pe_var (i := 2) rfl (Or.inl rfl) nd_top.1 nd_top.2) (pa_cons (pe_bin (os_add hr tk) pe_int (pe_cl c__law_digit hr (by decide) tk rfl (pa_cons (pe_var (i := 0) rfl (Or.inl rfl) nd_pot.1 nd_pot.2) (pa_cons pe_int pa_nil)))) pa_nil)))))) pss_nil) (pss_cons (ps_set (i := 2) sc__law_fraction.nd rfl (Or.inl rfl) (pe_bin (os_sub hr tk) pe_int (pe_cl c__law_digit hr (by decide) tk rfl (pa_cons (pe_var (i := 0) rfl (Or.inl rfl) nd_pot.1 nd_pot.2) (pa_cons pe_int pa_nil))))) (pss_one (ps_ret (pe_cl c__law_lowest hr (by decide) tk rfl (pa_cons (pe_var (i := 2) rfl (Or.inl rfl) nd_top.1 nd_top.2) (pa_cons (pe_bin (os_sub hr tk) pe_int (pe_cl c__law_digit hr (by decide) tk rfl (pa_cons (pe_var (i := 0) rfl (Or.inl rfl) nd_pot.1 nd_pot.2) (pa_cons pe_int pa_nil)))) pa_nil)))))))))))), ?_⟩)
  rintro ds m K E - ⟨p, m0, rfl, hm, k⟩
  show Ws _ _ _ [some (.ref p), none, none] _ _
  dsimp only [cx_G, cx_K]
  have sm : ∀ x y : Int, x.natAbs ≤ 1000000000000000000000000000000000000000000000000000000000000 → 0 < y → y ≤ 1000000000000000000000000000000000000000000000000000000000000 → ∀ m', PotM p m0 m' → K (prq (dv x y)) m' := fun x y h1 h2 h3 m' hm => k _ _ _ (lw_dv h2 h1 h3) hm
  have l01 : Lw 0 1 := ⟨by decide, by decide, ⟨Nat.pow_pos (by decide)⟩, ⟨Nat.lt_of_lt_of_le (by decide : 1 < 10 ^ 1) (Nat.pow_le_pow_right (by decide) (by decide))⟩⟩
  have b2 : Bd 2 2 := bd_lit (by decide)
  have bg : ∀ x y : Int, 0 ≤ x → x < 2 * 10 ^ Int.toNat 12 + 1 → 0 ≤ y → y < 10 ^ Int.toNat 12 → ∀ m', PotM p m0 m' → K (prq (dv (x - 10 ^ Int.toNat 12) (1 + y))) m' := fun x y hx hx2 hy hy2 m' hm => by
    rw [e12] at *
    exact sm _ _ (by omega) (by omega) (by omega) _ hm
  have bG : ∀ x y : Int, 0 ≤ x → x < 2 * 10 ^ Int.toNat 60 + 1 → 0 ≤ y → y < 10 ^ Int.toNat 60 → ∀ m', PotM p m0 m' → K (prq (dv (x - 10 ^ Int.toNat 60) (1 + y))) m' := fun x y hx hx2 hy hy2 m' hm => by
    rw [e60] at *
    exact sm _ _ (by omega) (by omega) (by omega) _ hm
  have bB : ∀ y : Int, 0 ≤ y → y < 10 ^ Int.toNat 60 → Bd 1000 (1 + y) := fun y h0 h1 => by
    rw [e60] at h1
    exact bd_big (by omega) (by omega)
  have bb : ∀ y : Int, 0 ≤ y → y < 10 ^ Int.toNat 12 → Bd 1000 (1 + y) := fun y h0 h1 => by
    rw [e12] at h1
    exact bd_big (by omega) (by omega)
  have b1 : ∀ y : Int, 0 ≤ y → 0 < 1 + y := fun y h => by omega
  walk_at "go_3"
  all_goals try first
    | exact cp12
    | exact cp60
    | exact bg _ _ (by assumption) (by assumption) (by assumption) (by assumption) _ (by assumption)
    | exact bG _ _ (by assumption) (by assumption) (by assumption) (by assumption) _ (by assumption)
    | exact bB _ (by assumption) (by assumption)
    | exact bb _ (by assumption) (by assumption)
    | exact b1 _ (by assumption)
    | exact bd_lit (by decide +kernel)
    | exact (show (0 : Int) < _ by decide +kernel)
    | exact (b2.mulX (bd_lit (n := 300) (by decide +kernel)) (by decide))
    | exact bd_big (by omega) (by omega)
    | exact sm _ _ (by omega) (by omega) (by omega) _ (by assumption)
    | exact k _ _ _ l01 (by assumption)
    | exact ⟨p, m0, rfl, by assumption, fun a b m' h1 h2 => k a b m' h1 h2⟩
    | omega
end
end K03
set_option Elab.async false
set_option linter.all false
set_option maxRecDepth 100000
set_option maxHeartbeats 4000000
namespace K03
open PySem PySem.Spec L2 DL
open PyProof.Rows hiding St
open SX (S)
open PySem.NumText (AllDigits digitsVal)
/-! one step, by the goal's head -/

/-! Ratio and Span by numbers: their promises used -/

/-! texts -/
local macro_rules | `(tactic| walk_at "fld_1") => `(tactic| (with_reducible refine we_fldF ?_))
local macro_rules | `(tactic| walk_at "useWe_1") => `(tactic| first | (with_reducible refine we_mt ?_) | (with_reducible refine we_ratG ?_) | (with_reducible refine we_ratG1 ?_) | (with_reducible refine we_stw ?_) | (with_reducible refine we_prt ?_) | (with_reducible refine we_slXp ?_) | (with_reducible refine we_slXs ?_) | (with_reducible refine we_mkV rfl ?_) | (with_reducible refine we_cme ?_) | (with_reducible refine we_lst ?_) | fail)
local macro_rules | `(tactic| walk_at "sWe_1") => `(tactic| first
  | ((with_reducible refine we_var (d := ?d) ?hv ?hk); case hv => rfl)
  | (with_reducible first
    | refine we_cint ?_ | refine we_2 ?_ | refine we_cl0 ?_ | refine we_tup ?_ | refine we_1 ?_ | refine we_c2 ?_ | refine we_cbl ?_ | refine we_cnon ?_ | refine we_cty ?_ | refine we_cref ?_
    | refine we_op ?_ | refine we_andV ?_ | refine we_orV ?_ | refine we_notV ?_ | refine we_3 ?_ | refine we_ifx ?_ | refine we_cstr ?_ | refine we_clH ?_)
  | walk_at "fld_1"
  | walk_at "useWe_1")
local macro_rules | `(tactic| walk_at "useW2_1") => `(tactic| first | (with_reducible refine w2_addS ?_ ?_) | (with_reducible refine w2_eqS ?_) | (with_reducible refine w2_neS ?_) | (with_reducible refine w2_ninS ?_) | (with_reducible refine w2_powF ⟨?_, ?_⟩) | fail)
local macro_rules | `(tactic| walk_at "sW2_1") => `(tactic| first
  | (with_reducible first
    | refine w2_add ?_ | refine w2_sub ?_ | refine w2_mul ⟨?_, ?_⟩ | refine w2_fdiv ⟨?_, ?_⟩ | refine w2_mod ⟨?_, ?_⟩ | refine w2_pow ⟨?_, ?_⟩ | refine w2_eqI ?_ | refine w2_neI ?_ | refine w2_lt ?_ | refine w2_le ?_ | refine w2_gt ?_ | refine w2_ge ?_ | refine w2_eqFI ?_ | refine w2_neFI ?_)
  | ((with_reducible refine w2_ixT (d := ?d) ⟨?hv, ?hk⟩); case hv => rfl)
  | ((with_reducible refine w2_ixL (d := ?d) ⟨?hv, ?hk⟩); case hv => rfl)
  | ((with_reducible refine w2_ixM (d := ?d) .head ⟨?hv, ?hk⟩); case hv => rfl)
  | (with_reducible first
    | refine w2_eqIH ?_ | refine w2_neIH ?_ | refine w2_mulH ⟨?_, ?_⟩ | refine w2_addH ?_ | refine w2_subH ?_ | refine w2_isN ?_ | refine w2_notN ?_ | refine w2_isB ?_ | refine w2_notB ?_)
  | walk_at "useW2_1")
local macro_rules | `(tactic| walk_at "sWa_1") => `(tactic| with_reducible first | refine wa_nil ?_ | refine wa_cons ?_)
local macro_rules | `(tactic| walk_at "useWs_1") => `(tactic| first | (with_reducible refine ws_rs0 ?_) | (with_reducible refine ws_rs ?_) | fail)
local macro_rules | `(tactic| walk_at "sWs_1") => `(tactic| first
  | (with_reducible first | refine ws_seq ?_ | refine ws_ret ?_ | refine ws_asg ?_ | refine ws_next ?_ | refine ws_drop ?_ | refine ws_par ?_ | refine ws_par3 ?_ | refine ws_fldN ?_ | refine ws_brk ?_ | refine ws_cont ?_)
  | walk_at "useWs_1")
local macro_rules | `(tactic| walk_at "sWt_1") => `(tactic| with_reducible first | refine wt_test ?_ | refine wt_tr ?_ | refine wt_and ?_ | refine wt_or ?_ | refine wt_not ?_)
local macro_rules | `(tactic| walk_at "useWc_1") => `(tactic| first | (with_reducible refine wc_intLI ?_) | (with_reducible refine wc_lenS ?_ ?_) | (with_reducible refine wc_strL (by assumption) (by decide) ?_) | (with_reducible refine wc_isiT .str kit_ss ?_) | (with_reducible refine wc_isiC (.ins (by assumption)) (by assumption) ?_) | (with_reducible refine wc_absI ?_) | fail)
local macro_rules | `(tactic| walk_at "sWc_1") => `(tactic| first
  | (with_reducible first | refine wc_int ?_ | refine wc_abs ?_ | refine wc_min ?_ | refine wc_gcd ?_ | refine wc_isiT .int kit_ii ?_ | refine wc_isiT .int kit_ib ?_ | refine wc_len .lst ?_ | refine wc_len .tup ?_ | refine wc_strI ?_ ?_)
  | walk_at "useWc_1")
local macro_rules | `(tactic| walk_at "sWi_1") => `(tactic| fail)
local macro_rules | `(tactic| walk_at "sWg_1") => `(tactic| with_reducible first | refine wg_name ?_ | refine wg_subM ?_ | refine wg_tup rfl ?_)
local macro_rules | `(tactic| walk_at "sW1_1") => `(tactic| first | (with_reducible refine w1_neg ?_) | walk_at "useW2_1")
local macro_rules | `(tactic| walk_at "sWgs_1") => `(tactic| with_reducible first | refine wgs_cons ?_ | refine wgs_nil ?_)
local macro_rules | `(tactic| walk_at "sS_1") => `(tactic| fail)
local macro_rules | `(tactic| walk_at "useT_1") => `(tactic| first | (with_reducible refine mt_of0 (by assumption) (by decide) ?_) | (with_reducible refine RatG.mk ?_ ?_ ?_) | (with_reducible refine @And.intro (@LE.le _ _ _ _) _ ?_ ?_) | fail)
local macro_rules | `(tactic| walk_at "use_1") => `(tactic| walk_at "useT_1")
local macro_rules | `(tactic| walk_at "sX_1") => `(tactic| first
  | (with_reducible refine ⟨_, rfl, ?_⟩)
  | (with_reducible refine fld_top (by assumption) ?_) | (with_reducible refine fld_bottom (by assumption) ?_)
  | (with_reducible refine ⟨_, .bl, ?_⟩)
  | ((with_reducible refine ⟨?h, ?_⟩); case h => rfl)
  | (with_reducible refine ⟨_, _, rfl, ?_⟩)
  | (with_reducible refine ⟨_, _, _, rfl, ?_⟩)
  | walk_at "use_1"
  | (with_reducible refine setN_top (by assumption) ?_) | (with_reducible refine setN_bottom (by assumption) ?_)
  | ((with_reducible refine ⟨_, _, _, ?j, _, rfl, rfl, .head, ?h, .head, ?_⟩); case h => rfl)
  | fail)
local macro_rules | `(tactic| walk_at "st_1") => `(tactic| first
  | ((with_reducible show We _ _ _ _ _ _); walk_at "sWe_1")
  | ((with_reducible show W2 _ _ _ _ _ _ _ _); walk_at "sW2_1")
  | ((with_reducible show Wa _ _ _ _ _ _); walk_at "sWa_1")
  | ((with_reducible show Ws _ _ _ _ _ _); walk_at "sWs_1")
  | ((with_reducible show Wt _ _ _ _ _ _); walk_at "sWt_1")
  | ((with_reducible show Wc _ _ _ _ _ _ _); walk_at "sWc_1")
  | ((with_reducible show Wi _ _ _ _ _ _); walk_at "sWi_1")
  | ((with_reducible show Wg _ _ _ _ _ _ _); walk_at "sWg_1")
  | ((with_reducible show W1 _ _ _ _ _ _ _); walk_at "sW1_1")
  | ((with_reducible show Wgs _ _ _ _ _ _ _); walk_at "sWgs_1")
  | walk_at "sS_1" | walk_at "sX_1" | fail)
local macro_rules | `(tactic| walk_at "wif_1") => `(tactic| (with_reducible refine ws_if ?_))
local macro_rules | `(tactic| walk_at "br_1") => `(tactic| ((with_reducible refine ⟨fun hb => ?_, fun hb => ?_⟩) <;> (try simp only [decide_eq_true_eq, decide_eq_false_iff_not, Bool.not_eq_true', Bool.not_eq_false', Bool.and_eq_true, Bool.or_eq_true, reduceCtorEq, List.length_map, Bool.not_true, Bool.not_false, DL.isNon, not_true_eq_false, not_false_eq_true, Classical.not_not, List.all_cons, List.all_nil, id_eq, Bool.and_self, Bool.true_and, decide_true, decide_false] at hb)))
local macro_rules | `(tactic| walk_at "go_1") => `(tactic| repeat' (first | walk_at "st_1" | walk_at "wif_1" | walk_at "br_1" | fail))
local macro_rules | `(tactic| walk_at "gn_1") => `(tactic| repeat' (first | walk_at "st_1" | walk_at "br_1" | fail))

theorem fix_hd {n : Str} {d : D} {ns : List Str} {ds : List D} : fix n (n :: ns) (d :: ds) = some d := by
  unfold fix
  rw [if_pos rfl]
theorem wr_len {a b : Int} (h : Lw a b) : (wr a b).length ≤ 1999 := by
  have l1 := numS_len (by decide) h.da
  have l2 := numS_len0 (by decide) (by have := h.pos; omega) h.db
  unfold wr
  split
  · omega
  · rw [List.length_append, List.length_append, List.length_singleton]
    omega
section
variable {G : Gx} {C_Ratio C_ZeroBottom C_BadNumber C_CarryError : Addr}
def S_written : SpecD := fun ds m K _ => ∃ a b, ds = [pr a b] ∧ Lw a b ∧ K (ts (wr a b)) m
theorem use_written {a b : Int} {m : Mu} {K : KT} {E : Ex → Mu → Prop} (h1 : Lw a b) (h : K (ts (wr a b)) m) : S_written [pr a b] m K E := ⟨a, b, rfl, h1, h⟩
theorem ok_written (T : Txt G C_Ratio C_ZeroBottom C_BadNumber C_CarryError) {f : Addr} {fd : FuncData} (F : L2.Fun G.K "_law_written" "_law_written" s__law_written f fd) (b : L2.Binds G.K fd ["p"] []) : Fnx G 1 f 1 S_written [] := by
  refine fnx_of F sc__law_written rfl b .nil rfl (fun cdv A outer s H FF hr tk => ⟨_, (pss_cons (ps_if (pt_cm (os_eqF hr tk) (pe_ix ix_seq (pe_var (i := 0) rfl (Or.inl rfl) nd_p.1 nd_p.2) pe_int (fun _ _ => rfl)) pe_int (nomark _)) (pss_one (ps_ret (pe_ct (cs_strL T.nd rfl) rfl T.n_str bt_str (pa_cons (pe_ix ix_seq (pe_var (i := 0) rfl (Or.inl rfl) nd_p.1 nd_p.2) pe_int (fun _ _ => rfl)) pa_nil)))) pss_nil) (pss_one (ps_ret (pe_bin (os_add hr tk) (pe_bin (os_add hr tk) (pe_ct (cs_strL T.nd rfl) rfl T.n_str bt_str (pa_cons (pe_ix ix_seq (pe_var (i := 0) rfl (Or.inl rfl) nd_p.1 nd_p.2) pe_int (fun _ _ => rfl)) pa_nil)) (pe_strS (l := [47]) (by decide +kernel))) (pe_ct (cs_strL T.nd rfl) rfl T.n_str bt_str (pa_cons (pe_ix ix_seq (pe_var (i := 0) rfl (Or.inl rfl) nd_p.1 nd_p.2) pe_int (fun _ _ => rfl)) pa_nil)))))), ?_⟩)
  rintro ds m K E - ⟨a, b, rfl, lw, k⟩
  show Ws _ _ _ [some (pr a b)] _ _
  try dsimp only [cx_G, cx_K]
  have da := lw.da
  have db := lw.db
  have l1 := numS_len (by decide) da
  have l2 := numS_len (by decide) db
  unfold wr at k
  walk_at "go_1"
  · rw [if_pos ‹_›] at k
    exact k
  · rw [List.length_singleton]
    omega
  · rw [List.length_append, List.length_singleton]
    omega
  · rw [if_neg ‹_›] at k
    exact k
/-- the text of a fraction is read -/
def S_reads : SpecD := fun ds m K _ => ∃ l a b, ds = [ts l, pr a b] ∧ l = wr a b ∧ 1 ≤ b ∧ Nat.gcd a.natAbs b.natAbs = 1 ∧ l.length ≤ 2000 ∧ K (.bl true) m
theorem use_reads {l : List Nat} {a b : Int} {m : Mu} {K : KT} {E : Ex → Mu → Prop} (h1 : l = wr a b) (h2 : 1 ≤ b) (h3 : Nat.gcd a.natAbs b.natAbs = 1) (h4 : l.length ≤ 2000) (h : K (.bl true) m) : S_reads [ts l, pr a b] m K E := ⟨l, a, b, rfl, h1, h2, h3, h4, h⟩
theorem use_readY {C B : Addr} {l : List Nat} {a b : Int} {m : Mu} {K : KT} {E : Ex → Mu → Prop} (hl : l.length ≤ 100000) (r : Rd l a b) (h : K (pq C a b) m) : S_read C B [.ref C, ts l] m K E := ⟨l, rfl, hl, .inl ⟨a, b, r, h⟩⟩
theorem use_readN {C B : Addr} {l : List Nat} {m : Mu} {K : KT} {E : Ex → Mu → Prop} (hl : l.length ≤ 100000) (r : NoRd l) (h : E ⟨B, ["given"], [ts l]⟩ m) : S_read C B [.ref C, ts l] m K E := ⟨l, rfl, hl, .inr ⟨r, h⟩⟩
theorem ok_reads (T : Txt G C_Ratio C_ZeroBottom C_BadNumber C_CarryError) (m_Ratio_text : Met G 1 C_Ratio ["top", "bottom"] "text" 1 (S_gtext C_Ratio) []) (t_Ratio_read : Cme G 3 C_Ratio "read" 2 (S_read C_Ratio C_BadNumber)) {f : Addr} {fd : FuncData} (F : L2.Fun G.K "_law_reads" "_law_reads" s__law_reads f fd) (b : L2.Binds G.K fd ["text", "p"] []) : Fnx G 4 f 2 S_reads [] := by
  refine fnx_of F sc__law_reads rfl b .nil rfl (fun cdv A outer s H FF hr tk => ⟨_, (pss_cons (ps_set (i := 2) sc__law_reads.nd rfl (Or.inl rfl) (pe_cme t_Ratio_read hr (by decide) tk (pe_glob (v := .ref C_Ratio) rfl T.mg_Ratio rfl) (pa_cons (pe_var (i := 0) rfl (Or.inl rfl) nd_text.1 nd_text.2) pa_nil))) (pss_cons (ps_if (pt_not (pt_tr (pe_cb cs_isi rfl T.n_isinstance bt_isinstance (pa_cons (pe_var (i := 2) rfl (Or.inl rfl) nd_told.1 nd_told.2) (pa_cons (pe_glob (v := .ref C_Ratio) rfl T.mg_Ratio rfl) pa_nil))))) (pss_one (ps_ret pe_bl)) pss_nil) (pss_cons (ps_if (PW.pt (pw_or (pt_not (pt_tr (pe_cb cs_isi rfl T.n_isinstance bt_isinstance (pa_cons (pe_fld (pe_var (i := 2) rfl (Or.inl rfl) nd_told.1 nd_told.2) rfl) (pa_cons (pe_bltn (v := .ty "int") rfl T.n_int bt_int rfl) pa_nil))))) (pw_or1 (pt_tr (pe_cb cs_isi rfl T.n_isinstance bt_isinstance (pa_cons (pe_fld (pe_var (i := 2) rfl (Or.inl rfl) nd_told.1 nd_told.2) rfl) (pa_cons (pe_bltn (v := .ty "bool") rfl T.n_bool bt_bool rfl) pa_nil))))))) (pss_one (ps_ret pe_bl)) pss_nil) (pss_cons (ps_if (PW.pt (pw_or (pt_not (pt_tr (pe_cb cs_isi rfl T.n_isinstance bt_isinstance (pa_cons (pe_fld (pe_var (i := 2) rfl (Or.inl rfl) nd_told.1 nd_told.2) rfl) (pa_cons (pe_bltn (v := .ty "int") rfl T.n_int bt_int rfl) pa_nil))))) (pw_or1 (pt_tr (pe_cb cs_isi rfl T.n_isinstance bt_isinstance (pa_cons (pe_fld (pe_var (i := 2) rfl (Or.inl rfl) nd_told.1 nd_told.2) rfl) (pa_cons (pe_bltn (v := .ty "bool") rfl T.n_bool bt_bool rfl) pa_nil))))))) (pss_one (ps_ret pe_bl)) pss_nil) (pss_cons (ps_if (PW.pt (pw_or (pt_cm (os_neF hr tk) (pe_fld (pe_var (i := 2) rfl (Or.inl rfl) nd_told.1 nd_told.2) rfl) (pe_ix ix_seq (pe_var (i := 1) rfl (Or.inl rfl) nd_p.1 nd_p.2) pe_int (fun _ _ => rfl)) (nomark _)) (pw_or1 (pt_cm (os_neF hr tk) (pe_fld (pe_var (i := 2) rfl (Or.inl rfl) nd_told.1 nd_told.2) rfl) (pe_ix ix_seq (pe_var (i := 1) rfl (Or.inl rfl) nd_p.1 nd_p.2) pe_int (fun _ _ => rfl)) (nomark _))))) (pss_one (ps_ret pe_bl)) pss_nil) (pss_cons (ps_set (i := 3) sc__law_reads.nd rfl (Or.inl rfl) (pe_mth0 hr tk (pe_var (i := 2) rfl (Or.inl rfl) nd_told.1 nd_told.2))) (pss_one (ps_ret (pe_and (pe_cb cs_isi rfl T.n_isinstance bt_isinstance (pa_cons (pe_var (i := 3) rfl (Or.inl rfl) nd_again.1 nd_again.2) (pa_cons (pe_bltn (v := .ty "str") rfl T.n_str bt_str rfl) pa_nil))) (pe_one (pe_cm (os_eqF hr tk) (pe_var (i := 3) rfl (Or.inl rfl) nd_again.1 nd_again.2) (pe_var (i := 0) rfl (Or.inl rfl) nd_text.1 nd_text.2) (nomark _)))))))))))), ?_⟩)
  rintro ds m K E - ⟨l, a, b, rfl, el, hb, g, hl, k⟩
  show Ws _ _ _ [some (ts l), some (pr a b), none, none] _ _
  try dsimp only [cx_G, cx_K]
  have R := T.R_Ratio
  have RI := R.ins
  have iR := T.is_Ratio_Ratio
  have rd : Rd l a b := by
    rw [el]
    exact rd_wr hb g (by rw [← el]; exact hl)
  have eq : pq C_Ratio a b = rq C_Ratio (dv a b) := (rq_low (by omega) g).symm
  have en : (dv a b).num = a ∧ ((dv a b).den : Int) = b := by
    have r := rT_dv (t := a) (b := b) (by omega)
    have q := rat_low (t := a) (b := b) (by omega) g
    rw [← r.1, ← r.2]
    exact q
  walk_at "gn_1"
  refine use_readY (by omega) rd ?_
  rw [eq]
  have d1 : Dg 2000 (dv a b).num := by
    rw [en.1]
    refine (dg_numS a).mono ?_
    unfold wr at el
    split at el
    · rw [← el]; exact hl
    · rw [el, List.length_append, List.length_append] at hl
      omega
  have d2 : Dg 2000 ((dv a b).den : Int) := by
    rw [en.2]
    unfold wr at el
    split at el
    · rw [‹b = 1›]
      exact ⟨Nat.lt_of_lt_of_le (by decide : 1 < 10 ^ 1) (Nat.pow_le_pow_right (by decide) (by decide))⟩
    · refine (dg_numS b).mono ?_
      rw [el, List.length_append, List.length_append] at hl
      omega
  walk_at "go_1"
  · exact absurd en.1 ‹_›
  · exact absurd en.2 ‹_›
  refine ⟨_, 2000, rfl, by decide, d1, d2, ?_⟩
  rw [en.1, en.2, ← el]
  walk_at "go_1"
  all_goals (rw [decide_eq_true rfl]; exact k)
def S_refuses : SpecD := fun ds m K _ => ∃ l : List Nat, ds = [ts l] ∧ l.length ≤ 100000 ∧ NoRd l ∧ K (.bl true) m
theorem use_refuses {l : List Nat} {m : Mu} {K : KT} {E : Ex → Mu → Prop} (h1 : l.length ≤ 100000) (h2 : NoRd l) (h : K (.bl true) m) : S_refuses [ts l] m K E := ⟨l, rfl, h1, h2, h⟩
local macro_rules | `(tactic| walk_at "fld_2") => `(tactic| (with_reducible refine we_fldF ?_))
local macro_rules | `(tactic| walk_at "useWe_2") => `(tactic| first | (with_reducible refine we_xf (by assumption) (by assumption) ?_) | (with_reducible refine we_cme ?_) | fail)
local macro_rules | `(tactic| walk_at "sWe_2") => `(tactic| first
  | ((with_reducible refine we_var (d := ?d) ?hv ?hk); case hv => rfl)
  | (with_reducible first
    | refine we_cint ?_ | refine we_2 ?_ | refine we_cl0 ?_ | refine we_tup ?_ | refine we_1 ?_ | refine we_c2 ?_ | refine we_cbl ?_ | refine we_cnon ?_ | refine we_cty ?_ | refine we_cref ?_
    | refine we_op ?_ | refine we_andV ?_ | refine we_orV ?_ | refine we_notV ?_ | refine we_3 ?_ | refine we_ifx ?_ | refine we_cstr ?_ | refine we_clH ?_)
  | walk_at "fld_2"
  | walk_at "useWe_2")
local macro_rules | `(tactic| walk_at "useW2_2") => `(tactic| first | (with_reducible refine w2_eqHS ?_) | fail)
local macro_rules | `(tactic| walk_at "sW2_2") => `(tactic| first
  | (with_reducible first
    | refine w2_add ?_ | refine w2_sub ?_ | refine w2_mul ⟨?_, ?_⟩ | refine w2_fdiv ⟨?_, ?_⟩ | refine w2_mod ⟨?_, ?_⟩ | refine w2_pow ⟨?_, ?_⟩ | refine w2_eqI ?_ | refine w2_neI ?_ | refine w2_lt ?_ | refine w2_le ?_ | refine w2_gt ?_ | refine w2_ge ?_ | refine w2_eqFI ?_ | refine w2_neFI ?_)
  | ((with_reducible refine w2_ixT (d := ?d) ⟨?hv, ?hk⟩); case hv => rfl)
  | ((with_reducible refine w2_ixL (d := ?d) ⟨?hv, ?hk⟩); case hv => rfl)
  | ((with_reducible refine w2_ixM (d := ?d) .head ⟨?hv, ?hk⟩); case hv => rfl)
  | (with_reducible first
    | refine w2_eqIH ?_ | refine w2_neIH ?_ | refine w2_mulH ⟨?_, ?_⟩ | refine w2_addH ?_ | refine w2_subH ?_ | refine w2_isN ?_ | refine w2_notN ?_ | refine w2_isB ?_ | refine w2_notB ?_)
  | walk_at "useW2_2")
local macro_rules | `(tactic| walk_at "sWa_2") => `(tactic| with_reducible first | refine wa_nil ?_ | refine wa_cons ?_)
local macro_rules | `(tactic| walk_at "useWs_2") => `(tactic| first | (with_reducible refine ws_rs0 ?_) | (with_reducible refine ws_rs ?_) | fail)
local macro_rules | `(tactic| walk_at "sWs_2") => `(tactic| first
  | (with_reducible first | refine ws_seq ?_ | refine ws_ret ?_ | refine ws_asg ?_ | refine ws_next ?_ | refine ws_drop ?_ | refine ws_par ?_ | refine ws_par3 ?_ | refine ws_fldN ?_ | refine ws_brk ?_ | refine ws_cont ?_)
  | walk_at "useWs_2")
local macro_rules | `(tactic| walk_at "sWt_2") => `(tactic| with_reducible first | refine wt_test ?_ | refine wt_tr ?_ | refine wt_and ?_ | refine wt_or ?_ | refine wt_not ?_)
local macro_rules | `(tactic| walk_at "useWc_2") => `(tactic| first | (with_reducible refine wc_isEC (by assumption) (by assumption) ?_) | (with_reducible refine wc_isET (by assumption) (by assumption) ?_) | (with_reducible refine wc_isiT .str kit_ss ?_) | fail)
local macro_rules | `(tactic| walk_at "sWc_2") => `(tactic| first
  | (with_reducible first | refine wc_int ?_ | refine wc_abs ?_ | refine wc_min ?_ | refine wc_gcd ?_ | refine wc_isiT .int kit_ii ?_ | refine wc_isiT .int kit_ib ?_ | refine wc_len .lst ?_ | refine wc_len .tup ?_ | refine wc_strI ?_ ?_)
  | walk_at "useWc_2")
local macro_rules | `(tactic| walk_at "sWi_2") => `(tactic| fail)
local macro_rules | `(tactic| walk_at "sWg_2") => `(tactic| with_reducible first | refine wg_name ?_ | refine wg_subM ?_ | refine wg_tup rfl ?_)
local macro_rules | `(tactic| walk_at "sW1_2") => `(tactic| first | (with_reducible refine w1_neg ?_) | walk_at "useW2_2")
local macro_rules | `(tactic| walk_at "sWgs_2") => `(tactic| with_reducible first | refine wgs_cons ?_ | refine wgs_nil ?_)
local macro_rules | `(tactic| walk_at "sS_2") => `(tactic| fail)
local macro_rules | `(tactic| walk_at "useT_2") => `(tactic| first | (with_reducible refine mt_of0 (by assumption) (by decide) ?_) | (with_reducible refine RatG.mk ?_ ?_ ?_) | (with_reducible refine @And.intro (@LE.le _ _ _ _) _ ?_ ?_) | fail)
local macro_rules | `(tactic| walk_at "use_2") => `(tactic| walk_at "useT_2")
local macro_rules | `(tactic| walk_at "sX_2") => `(tactic| first
  | (with_reducible refine ⟨_, rfl, ?_⟩)
  | (with_reducible refine fld_top (by assumption) ?_) | (with_reducible refine fld_bottom (by assumption) ?_)
  | (with_reducible refine ⟨_, .bl, ?_⟩)
  | ((with_reducible refine ⟨?h, ?_⟩); case h => rfl)
  | (with_reducible refine ⟨_, _, rfl, ?_⟩)
  | (with_reducible refine ⟨_, _, _, rfl, ?_⟩)
  | walk_at "use_2"
  | (with_reducible refine setN_top (by assumption) ?_) | (with_reducible refine setN_bottom (by assumption) ?_)
  | ((with_reducible refine ⟨_, _, _, ?j, _, rfl, rfl, .head, ?h, .head, ?_⟩); case h => rfl)
  | fail)
local macro_rules | `(tactic| walk_at "st_2") => `(tactic| first
  | ((with_reducible show We _ _ _ _ _ _); walk_at "sWe_2")
  | ((with_reducible show W2 _ _ _ _ _ _ _ _); walk_at "sW2_2")
  | ((with_reducible show Wa _ _ _ _ _ _); walk_at "sWa_2")
  | ((with_reducible show Ws _ _ _ _ _ _); walk_at "sWs_2")
  | ((with_reducible show Wt _ _ _ _ _ _); walk_at "sWt_2")
  | ((with_reducible show Wc _ _ _ _ _ _ _); walk_at "sWc_2")
  | ((with_reducible show Wi _ _ _ _ _ _); walk_at "sWi_2")
  | ((with_reducible show Wg _ _ _ _ _ _ _); walk_at "sWg_2")
  | ((with_reducible show W1 _ _ _ _ _ _ _); walk_at "sW1_2")
  | ((with_reducible show Wgs _ _ _ _ _ _ _); walk_at "sWgs_2")
  | walk_at "sS_2" | walk_at "sX_2" | fail)
local macro_rules | `(tactic| walk_at "wif_2") => `(tactic| (with_reducible refine ws_if ?_))
local macro_rules | `(tactic| walk_at "br_2") => `(tactic| ((with_reducible refine ⟨fun hb => ?_, fun hb => ?_⟩) <;> (try simp only [decide_eq_true_eq, decide_eq_false_iff_not, Bool.not_eq_true', Bool.not_eq_false', Bool.and_eq_true, Bool.or_eq_true, reduceCtorEq, List.length_map, Bool.not_true, Bool.not_false, DL.isNon, not_true_eq_false, not_false_eq_true, Classical.not_not, List.all_cons, List.all_nil, id_eq, Bool.and_self, Bool.true_and, decide_true, decide_false] at hb)))
local macro_rules | `(tactic| walk_at "go_2") => `(tactic| repeat' (first | walk_at "st_2" | walk_at "wif_2" | walk_at "br_2" | fail))
theorem ok_refuses (T : Txt G C_Ratio C_ZeroBottom C_BadNumber C_CarryError) (t_Ratio_read : Cme G 3 C_Ratio "read" 2 (S_read C_Ratio C_BadNumber)) {f : Addr} {fd : FuncData} (F : L2.Fun G.K "_law_refuses" "_law_refuses" s__law_refuses f fd) (b : L2.Binds G.K fd ["text"] []) : Fnx G 4 f 1 S_refuses [] := by
  refine fnx_of F sc__law_refuses rfl b .nil rfl (fun cdv A outer s H FF hr tk => ⟨_, (pss_cons (ps_tryD (i := 1) rfl rfl sc__law_refuses.nd rfl rfl ⟨rfl, nd_CarryError.1, .inl T.mg_CarryError⟩ tk (fun W1 pn1 xe1 tk1 po1 => (pss_one (ps_expr (pe_cme t_Ratio_read hr (by decide) tk1 (pe_glob (v := .ref C_Ratio) rfl T.mg_Ratio rfl) (pa_cons (pe_var (i := 0) rfl (Or.inl rfl) nd_text.1 nd_text.2) pa_nil))))) (fun a1 oe1 cls1 d1 pn1 hz hf => (pss_cons (ps_if (PW.pt (pw_or (pt_not (pt_trS (pe_isE hz hf T.n_isinstance (pa_cons (pe_var (i := 1) rfl (Or.inl rfl) nd_e.1 nd_e.2) (pa_cons (pe_glob (v := .ref C_BadNumber) (by rfl) T.mg_BadNumber rfl) pa_nil))))) (pw_or (pt_not (pt_trS (pe_isE hz hf T.n_isinstance (pa_cons (pe_var (i := 1) rfl (Or.inl rfl) nd_e.1 nd_e.2) (pa_cons (pe_bltn (v := .ty "ValueError") (by rfl) T.n_ValueError bt_ValueError rfl) pa_nil))))) (pw_or1 (pt_trS (pe_isE hz hf T.n_isinstance (pa_cons (pe_var (i := 1) rfl (Or.inl rfl) nd_e.1 nd_e.2) (pa_cons (pe_glob (v := .ref C_ZeroBottom) (by rfl) T.mg_ZeroBottom rfl) pa_nil)))))))) (pss_one (ps_ret pe_bl)) pss_nil) (pss_one (ps_ret (pe_and (pe_cb (oc := cIsi G) cs_isi rfl T.n_isinstance bt_isinstance (pa_cons (pe_xfD hz hf (pe_var (i := 1) rfl (Or.inl rfl) nd_e.1 nd_e.2)) (pa_cons (pe_bltn (v := .ty "str") (by rfl) T.n_str bt_str rfl) pa_nil))) (pe_one (pe_cm (o := oEqHF G) (os_eqHF (rH hr)) (pe_xfD hz hf (pe_var (i := 1) rfl (Or.inl rfl) nd_e.1 nd_e.2)) (pe_var (i := 0) rfl (Or.inl rfl) nd_text.1 nd_text.2) (nomark _))))))))) (pss_one (ps_ret pe_bl))), ?_⟩)
  rintro ds m K E - ⟨l, rfl, hl, n, k⟩
  show Ws _ _ _ [some (ts l), none] _ _
  dsimp only [cx_G, cx_K]
  have XC := T.XC_BadNumber
  have nf := T.no_BadNumber_given
  have x2 := XC.xf
  have i1 := T.is_BadNumber_BadNumber
  have i2 := T.is_BadNumber_ZeroBottom
  have i3 := T.isT_BadNumber_ValueError
  refine ws_seq (ws_try fun W' => ?_)
  walk_at "go_2"
  refine use_readN hl n ?_
  refine ⟨true, T.ex_BadNumber_CarryError, fun _ a dd => ?_, fun z => nomatch z⟩
  walk_at "go_2"
  all_goals refine ⟨_, _, _, rfl, fix_hd, ?_⟩
  all_goals walk_at "go_2"
  all_goals refine ⟨_, _, _, rfl, fix_hd, ?_⟩
  all_goals walk_at "go_2"
  all_goals (rw [decide_eq_true rfl]; exact k)
end
end K03
set_option Elab.async false
set_option linter.all false
set_option maxRecDepth 100000
/-! M03b: the texts that are no written form, one by one. -/
namespace DL
open PySem PySem.Spec L2
open PyProof.Rows hiding St
open SX (S)
open PySem.NumText (AllDigits digitsVal)
abbrev Gd (l : List Nat) : Prop := l.length ≤ 100000 ∧ NoRd l
theorem not_ok_nil {sg : Bool} : ¬ okW sg [] := fun h => okW_ne h rfl
theorem no_nil : NoRd [] := no_top (p := []) rfl not_ok_nil
theorem no_45 : NoRd [45] := no_top (p := [45]) (by decide) fun h => by
  have := h.1
  simp [dgs] at this
theorem no_47 : NoRd [47] := no_top (p := []) (by decide) not_ok_nil
theorem no_m0 : NoRd [45, 48] := no_top (p := [45, 48]) (by decide) (no_zero (p := []) (by simp [dgs]) (by decide))
theorem no_00 : NoRd [48, 48] := no_top (p := [48, 48]) (by decide) (no_zero (p := [48]) (by simp [dgs]) (by decide))
theorem no_p0 : NoRd [43, 48] := no_mem (c := 43) (by simp) (by decide) (by decide) (by decide)
theorem no_sl (l : List Nat) : NoRd ([47] ++ l) := no_top (p := []) (by simp [cutAt]) not_ok_nil
theorem m0_cut {l : List Nat} (h : 47 ∉ l) : 47 ∉ [45, 48] ++ l := by
  simp
  exact h
theorem not_m0 (l : List Nat) : ¬ okW true ([45, 48] ++ l) := no_zero (p := l) (by simp [dgs]) (by simp)
theorem no_m0l {l : List Nat} (h : 47 ∉ l) : NoRd ([45, 48] ++ l) := no_top (p := [45, 48] ++ l) (by rw [cut_none 47 _ (m0_cut h)]) (not_m0 l)
theorem no_m0lm {l m : List Nat} (h : 47 ∉ l) : NoRd ([45, 48] ++ l ++ [47] ++ m) := no_top (p := [45, 48] ++ l) (by
  rw [List.append_assoc]
  show (cutAt 47 (([45, 48] ++ l) ++ 47 :: m)).1 = _
  rw [cut_app m (m0_cut h)]) (not_m0 l)
theorem wr_app (a b : Int) : ∃ r, wr a b = numS a ++ r ∧ (r = [] ∨ ∃ q, r = 47 :: q) := by
  unfold wr
  split
  · exact ⟨[], (List.append_nil _).symm, .inl rfl⟩
  · exact ⟨47 :: numS b, by rw [List.append_assoc]; rfl, .inr ⟨_, rfl⟩⟩
theorem cut_wr {x : List Nat} (a b : Int) (hx : 47 ∉ x) : (cutAt 47 (x ++ wr a b)).1 = x ++ numS a := by
  obtain ⟨r, e, h⟩ := wr_app a b
  have n : 47 ∉ x ++ numS a := fun z => (List.mem_append.mp z).elim hx (numS_no47 a)
  rw [e, ← List.append_assoc]
  rcases h with rfl | ⟨q, rfl⟩
  · rw [List.append_nil, cut_none 47 _ n]
  · rw [cut_app q n]
theorem no_0w (a b : Int) : NoRd ([48] ++ wr a b) := no_top (cut_wr a b (by simp)) (no_zero (p := numS a) (by simp [dgs]) (by
  intro z
  have := List.append_cancel_left (as := [48]) (bs := numS a) (cs := []) z
  exact numS_ne a this))
theorem no_cw (l : List Nat) {x : List Nat} {c : Nat} (hc : c ∈ x) (h1 : ¬ (48 ≤ c ∧ c ≤ 57)) (h2 : c ≠ 45) (h3 : c ≠ 47) : NoRd (x ++ l) := no_mem (List.mem_append_left _ hc) h1 h2 h3
theorem no_wc (l : List Nat) {x : List Nat} {c : Nat} (hc : c ∈ x) (h1 : ¬ (48 ≤ c ∧ c ≤ 57)) (h2 : c ≠ 45) (h3 : c ≠ 47) : NoRd (l ++ x) := no_mem (List.mem_append_right _ hc) h1 h2 h3
theorem no_mm (l : List Nat) : NoRd ([45, 45] ++ l) := no_minus (p := [45]) (q := l) (by simp)
theorem no_tb {a : Int} {q : List Nat} (h : ¬ (okW false q ∧ 2 ≤ valW false q)) : NoRd (numS a ++ [47] ++ q) := by
  rw [List.append_assoc]
  exact no_bot (numS_no47 a) h
theorem no_t_ (a : Int) : NoRd (numS a ++ [47] ++ []) := no_tb fun h => not_ok_nil h.1
theorem no_t1 (a : Int) : NoRd (numS a ++ [47] ++ [49]) := no_tb fun h => absurd h.2 (by decide)
theorem no_t0 (a : Int) : NoRd (numS a ++ [47] ++ [48]) := no_tb fun h => absurd h.2 (by decide)
theorem no_t0l (a b : Int) : NoRd (numS a ++ [47] ++ ([48] ++ numS b)) := no_tb fun h => absurd h.1 (no_zero (p := numS b) (by simp [dgs]) (by
  intro z
  have := List.append_cancel_left (as := [48]) (bs := numS b) (cs := []) z
  exact numS_ne b this))
theorem no_tm (a : Int) (m : List Nat) : NoRd (numS a ++ [47, 45] ++ m) := by
  have e : numS a ++ [47, 45] ++ m = (numS a ++ [47]) ++ 45 :: m := by simp
  rw [e]
  exact no_minus (by simp)
theorem no_tx (l m : List Nat) {x : List Nat} {c : Nat} (hc : c ∈ x) (h1 : ¬ (48 ≤ c ∧ c ≤ 57)) (h2 : c ≠ 45) (h3 : c ≠ 47) : NoRd (l ++ x ++ m) := no_mem (List.mem_append_left _ (List.mem_append_right _ hc)) h1 h2 h3
theorem no_ss (a : Int) (m : List Nat) : NoRd (numS a ++ [47, 47] ++ m) := by
  have e : numS a ++ [47, 47] ++ m = numS a ++ 47 :: ([] ++ 47 :: m) := by simp
  rw [e]
  exact no_slash (numS_no47 a)
theorem no_sls (a : Int) (l m : List Nat) : NoRd (numS a ++ ([47] ++ l ++ [47]) ++ m) := by
  have e : numS a ++ ([47] ++ l ++ [47]) ++ m = numS a ++ 47 :: (l ++ 47 :: m) := by simp
  rw [e]
  exact no_slash (numS_no47 a)
theorem no_end (a : Int) (l : List Nat) : NoRd (numS a ++ [47] ++ l ++ [47]) := by
  have e : numS a ++ [47] ++ l ++ [47] = numS a ++ 47 :: (l ++ 47 :: []) := by simp
  rw [e]
  exact no_slash (numS_no47 a)
theorem no_tt {a b t : Int} (hb : 1 ≤ b) (ht : 2 ≤ t) : NoRd (numS (a * t) ++ [47] ++ numS (b * t)) := by
  rw [List.append_assoc]
  exact no_times hb ht
theorem no_put {l : List Nat} {n : Nat} (hn : 1 ≤ n) (hl : 1 ≤ l.length) : NoRd (l.take n ++ [45] ++ l.drop n) := by
  rw [List.append_assoc]
  refine no_minus fun z => ?_
  have h : (l.take n).length = 0 := by
    rw [z]
    rfl
  rw [List.length_take] at h
  omega
theorem wr_pos (a b : Int) : 1 ≤ (wr a b).length := by
  obtain ⟨r, e, _⟩ := wr_app a b
  rw [e, List.length_append]
  have := List.length_pos_iff.mpr (numS_ne a)
  omega
theorem atI_mem {l : List Nat} {i : Int} (h0 : 0 ≤ i) (h1 : i < (l.length : Int)) : ∃ c, atI l i = some c ∧ c ∈ l := by
  obtain ⟨n, rfl⟩ := Int.eq_ofNat_of_zero_le h0
  have hn : n < l.length := by omega
  refine ⟨l[n], ?_, List.getElem_mem _⟩
  unfold atI ixN
  rw [if_pos (by omega), if_pos h1]
  show l[(n : Int).toNat]? = _
  rw [Int.toNat_natCast]
  exact List.getElem?_eq_getElem hn
theorem Dg.bd {k : Nat} {i : Int} (h : Dg k i) : Bd (4 * k) i := by
  have h1 := h.lt
  have h2 : (10 : Nat) ^ k ≤ 2 ^ (4 * k) := by
    rw [Nat.pow_mul]
    exact Nat.pow_le_pow_left (by decide) k
  exact Nat.lt_of_lt_of_le h1 h2
/-! ### the pot under a newer object -/
theorem pot_dn {p : Addr} {m0 m : Mu} {x : Addr × MO} (h : PotM p m0 m) : ∃ m', (x :: m).Perm m' ∧ PotM p (x :: m0) m' := by
  obtain ⟨cs, i, r, rfl, k⟩ := h
  exact ⟨_, .swap _ _ _, cs, i, r, rfl, k⟩
theorem pot_up {p : Addr} {m0 m : Mu} {x : Addr × MO} (h : PotM p (x :: m0) m) : ∃ m', m.Perm (x :: m') ∧ PotM p m0 m' := by
  obtain ⟨cs, i, r, rfl, k⟩ := h
  exact ⟨_, .swap _ _ _, cs, i, r, rfl, k⟩
theorem pot_at {p q : Addr} {m0 m : Mu} {o : MO} (h : PotM p m0 m) (a : At m0 q o) : At m q o := by
  obtain ⟨cs, i, r, rfl, k⟩ := h
  exact .tail a
theorem pot_put {p q : Addr} {m0 m0' m : Mu} {u : MO} (h : PotM p m0 m) (a : Put m0 q u m0') : ∃ m', Put m q u m' ∧ PotM p m0' m' := by
  obtain ⟨cs, i, r, rfl, k⟩ := h
  exact ⟨_, .tail a, cs, i, r, rfl, k⟩
section
variable {W : WX} {E : ET} {r : Rho} {m : Mu} {K : KT} {G : Gx} {j : Nat}
/-- two lists joined, the new one to be changed -/
theorem w2_catV {x y : D} {xs ys : List D} (lx : LstM x m xs) (ly : LstM y m ys) (hl : xs.length + ys.length ≤ 1000000) (h : ∀ p, ¬ dom m p → K (.ref p) ((p, .lst (xs ++ ys)) :: m)) : W2 W E (oAdd G j W) x y r m K := fun s H Q v w e z rx ry g => by
  obtain ⟨a, vs, rfl, ha, ra⟩ := lx.rd e.mu rx
  obtain ⟨b, ws, rfl, hb, rb⟩ := ly.rd e.mu ry
  refine .inr (.inr (.inl ⟨a, b, vs, ws, rfl, rfl, ha, hb, ?_, fun p hp => ?_⟩))
  · rw [← ra.length, ← rb.length]
    exact Nat.le_trans hl (by decide : 1000000 ≤ sizeLine)
  · exact g _ _ _ _ (Stp.newM (x := .lst (xs ++ ys)) hp) (e.mu.newM hp (.lst upd_same ((Reps.append ra rb).mono (Stp.newM hp)))) (.ref p) (h p (new_notin e.mu hp))
end
end DL
set_option Elab.async false
set_option linter.all false
set_option maxRecDepth 100000
/-! DL24: cuts of lists that were made by a function; stores in another order; lists appended to. -/
namespace DL
open PySem PySem.Spec L2
open PyProof.Rows hiding St
theorem sIx_nat {n : Nat} {j : Nat} {d : Nat} : HT.sIx n d (some (j : Int)) = min j n := by
  unfold HT.sIx
  dsimp only
  rw [if_neg (by omega)]
  omega
theorem cutD_pre {xs : List D} {j : Nat} : cutD xs none (some (j : Int)) = xs.take j := by
  unfold cutD
  rw [sIx_nat]
  have e : HT.sIx xs.length 0 none = 0 := rfl
  rw [e, List.drop_zero, Nat.sub_zero]
  by_cases h : j ≤ xs.length
  · rw [Nat.min_eq_left h]
  · rw [Nat.min_eq_right (by omega), List.take_length, List.take_of_length_le (by omega)]
theorem cutD_suf {xs : List D} {j : Nat} : cutD xs (some (j : Int)) none = xs.drop j := by
  unfold cutD
  rw [sIx_nat]
  have e : HT.sIx xs.length xs.length none = xs.length := rfl
  rw [e]
  by_cases h : j ≤ xs.length
  · rw [Nat.min_eq_left h, List.take_of_length_le (by rw [List.length_drop]; omega)]
  · rw [Nat.min_eq_right (by omega), List.drop_length, List.drop_of_length_le (by omega)]
    simp
section
variable {W : WX} {E : ET} {r : Rho} {m m2 : Mu} {K : KT} {G : Gx} {te t2 : TE} {t : TS} {P : DEnds}
structure SlA (j : Int) (K : Prop) : Prop where
  nn : 0 ≤ j
  k : K
/-- xs[:j] -/
theorem we_slPre (h : We W E te r m fun d m1 => ∃ (α : Type) (l : List α) (f : α → D), d = .lst (l.map f) ∧ We W E t2 r m1 fun i m2 => ∃ j : Int, i = .int j ∧ SlA j (K (.lst ((l.take j.toNat).map f)) m2)) :
    We W E (tSl (rSlL G.K) te tNoPart (tPart t2)) r m K :=
  we_slL (h.imp fun d m1 ⟨α, l, f, e, h2⟩ => ⟨_, e, wo_none (wo_some (h2.imp fun i m2 ⟨j, e2, ⟨h0, k⟩⟩ => ⟨j, e2, by
    obtain ⟨n, rfl⟩ := Int.eq_ofNat_of_zero_le h0
    rw [cutD_pre, ← List.map_take]
    exact k⟩))⟩)
/-- xs[j:] -/
theorem we_slSuf (h : We W E te r m fun d m1 => ∃ (α : Type) (l : List α) (f : α → D), d = .lst (l.map f) ∧ We W E t2 r m1 fun i m2 => ∃ j : Int, i = .int j ∧ SlA j (K (.lst ((l.drop j.toNat).map f)) m2)) :
    We W E (tSl (rSlL G.K) te (tPart t2) tNoPart) r m K :=
  we_slL (h.imp fun d m1 ⟨α, l, f, e, h2⟩ => ⟨_, e, wo_some (h2.imp fun i m2 ⟨j, e2, ⟨h0, k⟩⟩ => ⟨j, e2, wo_none (by
    obtain ⟨n, rfl⟩ := Int.eq_ofNat_of_zero_le h0
    rw [cutD_suf, ← List.map_drop]
    exact k)⟩)⟩)
theorem Ws.perm (p : m.Perm m2) (h : Ws W E t r m2 P) : Ws W E t r m P := fun s H De e z g => by
  obtain ⟨mu, hd⟩ := e.mu.perm p
  have e2 : EnvR r m2 s H := ⟨by rw [hd]; exact e.env, mu⟩
  have z2 : Rz W E m2 H := fun x r' m' cls dd s' H' a => z x r' m' cls dd s' H' (by rw [← hd]; exact a)
  exact h s H De e2 z2 ⟨fun r' m' s' H' a => g.nx r' m' s' H' (by rw [← hd]; exact a), fun d m' v H' a => g.rt d m' v H' (by rw [← hd]; exact a), fun r' m' s' H' a => g.bk r' m' s' H' (by rw [← hd]; exact a), fun r' m' s' H' a => g.ct r' m' s' H' (by rw [← hd]; exact a)⟩
end
theorem perm_mat {t : Addr} {qs : List Addr} {xss : List (List D)} {q : Addr × MO} {m : Mu} : (matM t qs xss (q :: m)).Perm (q :: matM t qs xss m) := by
  rw [matM_eq, matM_eq]
  exact List.perm_middle
theorem frz_in {own : Mu} {t : Addr} {qs : List Addr} {xss : List (List D)} (h : qs.length = xss.length) (k : ∀ q ∈ matO t qs xss, At own q.1 q.2) : Frz own (.ref t) (.lst (xss.map .lst)) :=
  .ref (k (t, _) (List.mem_append_right _ (List.mem_cons_self ..))) (frz_rows h fun q hq => k q (List.mem_append_left _ hq))
theorem frz_mat1 {t : Addr} {qs : List Addr} {xss : List (List D)} {q : Addr × MO} {m : Mu} (h : qs.length = xss.length) : Frz (q :: matM t qs xss m) (.ref t) (.lst (xss.map .lst)) :=
  frz_in h fun p hp => .tail (by rw [matM_eq]; exact (At.of_mem hp).app)
end DL
set_option Elab.async false
set_option linter.all false
set_option maxRecDepth 100000
set_option maxHeartbeats 4000000
namespace K03
open PySem PySem.Spec L2 DL
open PyProof.Rows hiding St
open SX (S)
open PySem.NumText (AllDigits digitsVal)
/-! one step, by the goal's head -/

/-! Ratio and Span by numbers: their promises used -/

/-! texts -/

theorem sg_ok {l : List Nat} (h : l.all (fun c => !(decide (48 ≤ c ∧ c ≤ 57)) && c != 45 && c != 47) = true) {c : Nat} (hc : c ∈ l) : ¬ (48 ≤ c ∧ c ≤ 57) ∧ c ≠ 45 ∧ c ≠ 47 := by
  have q := List.all_eq_true.mp h c hc
  simp only [Bool.and_eq_true, Bool.not_eq_true', decide_eq_false_iff_not, bne_iff_ne, ne_eq] at q
  exact ⟨q.1.1, q.1.2, q.2⟩
section
variable {G : Gx} {C_Ratio C_ZeroBottom C_BadNumber C_CarryError : Addr}
local macro_rules | `(tactic| walk_at "fld_1") => `(tactic| (with_reducible refine we_fldF ?_))
local macro_rules | `(tactic| walk_at "useWe_1") => `(tactic| first | (with_reducible refine we_slXp ?_) | (with_reducible refine we_slXs ?_) | (with_reducible refine we_lst ?_) | (with_reducible refine we_app ?_) | fail)
local macro_rules | `(tactic| walk_at "sWe_1") => `(tactic| first
  | ((with_reducible refine we_var (d := ?d) ?hv ?hk); case hv => rfl)
  | (with_reducible first
    | refine we_cint ?_ | refine we_2 ?_ | refine we_cl0 ?_ | refine we_tup ?_ | refine we_1 ?_ | refine we_c2 ?_ | refine we_cbl ?_ | refine we_cnon ?_ | refine we_cty ?_ | refine we_cref ?_
    | refine we_op ?_ | refine we_andV ?_ | refine we_orV ?_ | refine we_notV ?_ | refine we_3 ?_ | refine we_ifx ?_ | refine we_cstr ?_ | refine we_clH ?_)
  | walk_at "fld_1"
  | walk_at "useWe_1")
local macro_rules | `(tactic| walk_at "useW2_1") => `(tactic| first | (with_reducible refine w2_addS ?_ ?_) | (with_reducible refine w2_eqS ?_) | (with_reducible refine w2_neS ?_) | (with_reducible refine w2_ninS ?_) | (with_reducible refine w2_powF ⟨?_, ?_⟩) | fail)
local macro_rules | `(tactic| walk_at "sW2_1") => `(tactic| first
  | (with_reducible first
    | refine w2_add ?_ | refine w2_sub ?_ | refine w2_mul ⟨?_, ?_⟩ | refine w2_fdiv ⟨?_, ?_⟩ | refine w2_mod ⟨?_, ?_⟩ | refine w2_pow ⟨?_, ?_⟩ | refine w2_eqI ?_ | refine w2_neI ?_ | refine w2_lt ?_ | refine w2_le ?_ | refine w2_gt ?_ | refine w2_ge ?_ | refine w2_eqFI ?_ | refine w2_neFI ?_)
  | ((with_reducible refine w2_ixT (d := ?d) ⟨?hv, ?hk⟩); case hv => rfl)
  | ((with_reducible refine w2_ixL (d := ?d) ⟨?hv, ?hk⟩); case hv => rfl)
  | ((with_reducible refine w2_ixM (d := ?d) .head ⟨?hv, ?hk⟩); case hv => rfl)
  | (with_reducible first
    | refine w2_eqIH ?_ | refine w2_neIH ?_ | refine w2_mulH ⟨?_, ?_⟩ | refine w2_addH ?_ | refine w2_subH ?_ | refine w2_isN ?_ | refine w2_notN ?_ | refine w2_isB ?_ | refine w2_notB ?_)
  | walk_at "useW2_1")
local macro_rules | `(tactic| walk_at "sWa_1") => `(tactic| with_reducible first | refine wa_nil ?_ | refine wa_cons ?_)
local macro_rules | `(tactic| walk_at "useWs_1") => `(tactic| first | (with_reducible refine ws_rs0 ?_) | (with_reducible refine ws_rs ?_) | fail)
local macro_rules | `(tactic| walk_at "sWs_1") => `(tactic| first
  | (with_reducible first | refine ws_seq ?_ | refine ws_ret ?_ | refine ws_asg ?_ | refine ws_next ?_ | refine ws_drop ?_ | refine ws_par ?_ | refine ws_par3 ?_ | refine ws_fldN ?_ | refine ws_brk ?_ | refine ws_cont ?_)
  | walk_at "useWs_1")
local macro_rules | `(tactic| walk_at "sWt_1") => `(tactic| with_reducible first | refine wt_test ?_ | refine wt_tr ?_ | refine wt_and ?_ | refine wt_or ?_ | refine wt_not ?_)
local macro_rules | `(tactic| walk_at "useWc_1") => `(tactic| first | (with_reducible refine wc_intLI ?_) | (with_reducible refine wc_lenS ?_ ?_) | (with_reducible refine wc_strL (by assumption) (by decide) ?_) | (with_reducible refine wc_isiT .str kit_ss ?_) | (with_reducible refine wc_isiC (.ins (by assumption)) (by assumption) ?_) | (with_reducible refine wc_absI ?_) | fail)
local macro_rules | `(tactic| walk_at "sWc_1") => `(tactic| first
  | (with_reducible first | refine wc_int ?_ | refine wc_abs ?_ | refine wc_min ?_ | refine wc_gcd ?_ | refine wc_isiT .int kit_ii ?_ | refine wc_isiT .int kit_ib ?_ | refine wc_len .lst ?_ | refine wc_len .tup ?_ | refine wc_strI ?_ ?_)
  | walk_at "useWc_1")
local macro_rules | `(tactic| walk_at "sWi_1") => `(tactic| fail)
local macro_rules | `(tactic| walk_at "sWg_1") => `(tactic| with_reducible first | refine wg_name ?_ | refine wg_subM ?_ | refine wg_tup rfl ?_)
local macro_rules | `(tactic| walk_at "sW1_1") => `(tactic| first | (with_reducible refine w1_neg ?_) | walk_at "useW2_1")
local macro_rules | `(tactic| walk_at "sWgs_1") => `(tactic| with_reducible first | refine wgs_cons ?_ | refine wgs_nil ?_)
local macro_rules | `(tactic| walk_at "sS_1") => `(tactic| fail)
local macro_rules | `(tactic| walk_at "useT_1") => `(tactic| first | (with_reducible refine mt_of0 (by assumption) (by decide) ?_) | (with_reducible refine RatG.mk ?_ ?_ ?_) | (with_reducible refine @And.intro (@LE.le _ _ _ _) _ ?_ ?_) | fail)
local macro_rules | `(tactic| walk_at "use_1") => `(tactic| first | walk_at "useT_1" | (with_reducible refine ⟨_, _, rfl, .head, ?_⟩) | (with_reducible refine ⟨_, _, _, rfl, .head, ?_, .head, ?_⟩))
local macro_rules | `(tactic| walk_at "sX_1") => `(tactic| first
  | (with_reducible refine ⟨_, rfl, ?_⟩)
  | (with_reducible refine fld_top (by assumption) ?_) | (with_reducible refine fld_bottom (by assumption) ?_)
  | (with_reducible refine ⟨_, .bl, ?_⟩)
  | ((with_reducible refine ⟨?h, ?_⟩); case h => rfl)
  | (with_reducible refine ⟨_, _, rfl, ?_⟩)
  | (with_reducible refine ⟨_, _, _, rfl, ?_⟩)
  | walk_at "use_1"
  | (with_reducible refine setN_top (by assumption) ?_) | (with_reducible refine setN_bottom (by assumption) ?_)
  | ((with_reducible refine ⟨_, _, _, ?j, _, rfl, rfl, .head, ?h, .head, ?_⟩); case h => rfl)
  | fail)
local macro_rules | `(tactic| walk_at "st_1") => `(tactic| first
  | ((with_reducible show We _ _ _ _ _ _); walk_at "sWe_1")
  | ((with_reducible show W2 _ _ _ _ _ _ _ _); walk_at "sW2_1")
  | ((with_reducible show Wa _ _ _ _ _ _); walk_at "sWa_1")
  | ((with_reducible show Ws _ _ _ _ _ _); walk_at "sWs_1")
  | ((with_reducible show Wt _ _ _ _ _ _); walk_at "sWt_1")
  | ((with_reducible show Wc _ _ _ _ _ _ _); walk_at "sWc_1")
  | ((with_reducible show Wi _ _ _ _ _ _); walk_at "sWi_1")
  | ((with_reducible show Wg _ _ _ _ _ _ _); walk_at "sWg_1")
  | ((with_reducible show W1 _ _ _ _ _ _ _); walk_at "sW1_1")
  | ((with_reducible show Wgs _ _ _ _ _ _ _); walk_at "sWgs_1")
  | walk_at "sS_1" | walk_at "sX_1" | fail)
local macro_rules | `(tactic| walk_at "br_1") => `(tactic| ((with_reducible refine ⟨fun hb => ?_, fun hb => ?_⟩) <;> (try simp only [decide_eq_true_eq, decide_eq_false_iff_not, Bool.not_eq_true', Bool.not_eq_false', Bool.and_eq_true, Bool.or_eq_true, reduceCtorEq, List.length_map, Bool.not_true, Bool.not_false, DL.isNon, not_true_eq_false, not_false_eq_true, Classical.not_not, List.all_cons, List.all_nil, id_eq, Bool.and_self, Bool.true_and, decide_true, decide_false] at hb)))
local macro_rules | `(tactic| walk_at "gn_1") => `(tactic| repeat' (first | walk_at "st_1" | walk_at "br_1" | fail))
def S_spoilt : SpecD := fun ds m K _ => ∃ p a b l t m0, ds = [.ref p, pr a b, ts l, .int t] ∧ l = wr a b ∧ Lw a b ∧ 2 ≤ t ∧ t ≤ 99 ∧ PotM p m0 m ∧ ∀ (rs : List (List Nat)) m', PotM p m0 m' → (∀ r ∈ rs, Gd r) → rs.length ≤ 100 → K (.lst (rs.map ts)) m'
theorem use_spoilt {p : Addr} {a b t : Int} {l : List Nat} {m m0 : Mu} {K : KT} {E : Ex → Mu → Prop} (h1 : l = wr a b) (h2 : Lw a b) (h3 : 2 ≤ t) (h4 : t ≤ 99) (h5 : PotM p m0 m) (h : ∀ (rs : List (List Nat)) m', PotM p m0 m' → (∀ r ∈ rs, Gd r) → rs.length ≤ 100 → K (.lst (rs.map ts)) m') : S_spoilt [.ref p, pr a b, ts l, .int t] m K E := ⟨p, a, b, l, t, m0, rfl, h1, h2, h3, h4, h5, h⟩
theorem ok_spoilt (T : Txt G C_Ratio C_ZeroBottom C_BadNumber C_CarryError) (c__law_digit : Cal G 1 "_law_digit" 2 S_digit []) {f : Addr} {fd : FuncData} (F : L2.Fun G.K "_law_spoilt" "_law_spoilt" s__law_spoilt f fd) (b : L2.Binds G.K fd ["pot", "p", "text", "times"] []) : Fnx G 2 f 4 S_spoilt [] := by
  refine fnx_of F sc__law_spoilt rfl b .nil rfl (fun cdv A outer s H FF hr tk => ⟨_, (pss_cons (ps_set (i := 4) sc__law_spoilt.nd rfl (Or.inl rfl) (pe_ct (cs_strL T.nd rfl) rfl T.n_str bt_str (pa_cons (pe_ix ix_seq (pe_var (i := 1) rfl (Or.inl rfl) nd_p.1 nd_p.2) pe_int (fun _ _ => rfl)) pa_nil))) (pss_cons (ps_set (i := 5) sc__law_spoilt.nd rfl (Or.inl rfl) (pe_ct (cs_strL T.nd rfl) rfl T.n_str bt_str (pa_cons (pe_ix ix_seq (pe_var (i := 1) rfl (Or.inl rfl) nd_p.1 nd_p.2) pe_int (fun _ _ => rfl)) pa_nil))) (pss_cons (ps_set (i := 6) sc__law_spoilt.nd rfl (Or.inl rfl) (pe_ct (cs_strL T.nd rfl) rfl T.n_str bt_str (pa_cons (pe_bin (os_add hr tk) (pe_ix ix_seq (pe_var (i := 1) rfl (Or.inl rfl) nd_p.1 nd_p.2) pe_int (fun _ _ => rfl)) pe_int) pa_nil))) (pss_cons (ps_set (i := 7) sc__law_spoilt.nd rfl (Or.inl rfl) (pe_lst (pa_cons (pe_strS (l := []) (by decide +kernel)) (pa_cons (pe_strS (l := [32]) (by decide +kernel)) (pa_cons (pe_strS (l := [45]) (by decide +kernel)) (pa_cons (pe_strS (l := [47]) (by decide +kernel)) (pa_cons (pe_strS (l := [45, 48]) (by decide +kernel)) (pa_cons (pe_strS (l := [48, 48]) (by decide +kernel)) (pa_cons (pe_strS (l := [43, 48]) (by decide +kernel)) (pa_cons (pe_bin (os_add hr tk) (pe_strS (l := [47]) (by decide +kernel)) (pe_var (i := 5) rfl (Or.inl rfl) nd_low.1 nd_low.2)) pa_nil)))))))))) (pss_cons (ps_set (i := 7) sc__law_spoilt.nd rfl (Or.inl rfl) (pe_bin (os_add hr tk) (pe_var (i := 7) rfl (Or.inl rfl) nd_rows.1 nd_rows.2) (pe_lst (pa_cons (pe_bin (os_add hr tk) (pe_strS (l := [45, 48]) (by decide +kernel)) (pe_var (i := 5) rfl (Or.inl rfl) nd_low.1 nd_low.2)) (pa_cons (pe_bin (os_add hr tk) (pe_bin (os_add hr tk) (pe_bin (os_add hr tk) (pe_strS (l := [45, 48]) (by decide +kernel)) (pe_var (i := 5) rfl (Or.inl rfl) nd_low.1 nd_low.2)) (pe_strS (l := [47]) (by decide +kernel))) (pe_var (i := 6) rfl (Or.inl rfl) nd_more.1 nd_more.2)) pa_nil))))) (pss_cons (ps_for (passes_of rfl) rfl (pi_seqK (KK := G.K) (by rfl) (pe_lst (pa_cons (pe_strS (l := [43]) (by decide +kernel)) (pa_cons (pe_strS (l := [48]) (by decide +kernel)) (pa_cons (pe_strS (l := [45, 45]) (by decide +kernel)) (pa_cons (pe_strS (l := [32]) (by decide +kernel)) (pa_cons (pe_strS (l := [10]) (by decide +kernel)) pa_nil))))))) (pg_name (i := 8) sc__law_spoilt.nd rfl (Or.inl rfl)) (pss_one (ps_expr (pe_bm PySem.F.plainAttrs_list PySem.F.slot_list_append PySem.F.type_list_append mt_append (pe_var (i := 7) rfl (Or.inl rfl) nd_rows.1 nd_rows.2) (pa_cons (pe_bin (os_add hr tk) (pe_var (i := 8) rfl (Or.inl rfl) nd_ahead.1 nd_ahead.2) (pe_var (i := 2) rfl (Or.inl rfl) nd_text.1 nd_text.2)) pa_nil))))) (pss_cons (ps_for (passes_of rfl) rfl (pi_seqK (KK := G.K) (by rfl) (pe_lst (pa_cons (pe_strS (l := [32]) (by decide +kernel)) (pa_cons (pe_strS (l := [10]) (by decide +kernel)) pa_nil)))) (pg_name (i := 9) sc__law_spoilt.nd rfl (Or.inl rfl)) (pss_one (ps_expr (pe_bm PySem.F.plainAttrs_list PySem.F.slot_list_append PySem.F.type_list_append mt_append (pe_var (i := 7) rfl (Or.inl rfl) nd_rows.1 nd_rows.2) (pa_cons (pe_bin (os_add hr tk) (pe_var (i := 2) rfl (Or.inl rfl) nd_text.1 nd_text.2) (pe_var (i := 9) rfl (Or.inl rfl) nd_behind.1 nd_behind.2)) pa_nil))))) (pss_cons (ps_for (passes_of rfl) rfl (pi_seqK (KK := G.K) (by rfl) (pe_lst (pa_cons (pe_strS (l := []) (by decide +kernel)) (pa_cons (pe_strS (l := [49]) (by decide +kernel)) (pa_cons (pe_strS (l := [48]) (by decide +kernel)) (pa_cons (pe_bin (os_add hr tk) (pe_strS (l := [48]) (by decide +kernel)) (pe_var (i := 5) rfl (Or.inl rfl) nd_low.1 nd_low.2)) pa_nil)))))) (pg_name (i := 9) sc__law_spoilt.nd rfl (Or.inl rfl)) (pss_one (ps_expr (pe_bm PySem.F.plainAttrs_list PySem.F.slot_list_append PySem.F.type_list_append mt_append (pe_var (i := 7) rfl (Or.inl rfl) nd_rows.1 nd_rows.2) (pa_cons (pe_bin (os_add hr tk) (pe_bin (os_add hr tk) (pe_var (i := 4) rfl (Or.inl rfl) nd_top.1 nd_top.2) (pe_strS (l := [47]) (by decide +kernel))) (pe_var (i := 9) rfl (Or.inl rfl) nd_behind.1 nd_behind.2)) pa_nil))))) (pss_cons (ps_for (passes_of rfl) rfl (pi_seqK (KK := G.K) (by rfl) (pe_lst (pa_cons (pe_strS (l := [47, 45]) (by decide +kernel)) (pa_cons (pe_strS (l := [47, 43]) (by decide +kernel)) (pa_cons (pe_strS (l := [47, 47]) (by decide +kernel)) (pa_cons (pe_strS (l := [47, 32]) (by decide +kernel)) (pa_cons (pe_strS (l := [32, 47]) (by decide +kernel)) (pa_cons (pe_bin (os_add hr tk) (pe_bin (os_add hr tk) (pe_strS (l := [47]) (by decide +kernel)) (pe_var (i := 5) rfl (Or.inl rfl) nd_low.1 nd_low.2)) (pe_strS (l := [47]) (by decide +kernel))) pa_nil)))))))) (pg_name (i := 10) sc__law_spoilt.nd rfl (Or.inl rfl)) (pss_one (ps_expr (pe_bm PySem.F.plainAttrs_list PySem.F.slot_list_append PySem.F.type_list_append mt_append (pe_var (i := 7) rfl (Or.inl rfl) nd_rows.1 nd_rows.2) (pa_cons (pe_bin (os_add hr tk) (pe_bin (os_add hr tk) (pe_var (i := 4) rfl (Or.inl rfl) nd_top.1 nd_top.2) (pe_var (i := 10) rfl (Or.inl rfl) nd_between.1 nd_between.2)) (pe_var (i := 6) rfl (Or.inl rfl) nd_more.1 nd_more.2)) pa_nil))))) (pss_cons (ps_expr (pe_bm PySem.F.plainAttrs_list PySem.F.slot_list_append PySem.F.type_list_append mt_append (pe_var (i := 7) rfl (Or.inl rfl) nd_rows.1 nd_rows.2) (pa_cons (pe_bin (os_add hr tk) (pe_bin (os_add hr tk) (pe_bin (os_add hr tk) (pe_var (i := 4) rfl (Or.inl rfl) nd_top.1 nd_top.2) (pe_strS (l := [47]) (by decide +kernel))) (pe_var (i := 5) rfl (Or.inl rfl) nd_low.1 nd_low.2)) (pe_strS (l := [47]) (by decide +kernel))) pa_nil))) (pss_cons (ps_expr (pe_bm PySem.F.plainAttrs_list PySem.F.slot_list_append PySem.F.type_list_append mt_append (pe_var (i := 7) rfl (Or.inl rfl) nd_rows.1 nd_rows.2) (pa_cons (pe_bin (os_add hr tk) (pe_bin (os_add hr tk) (pe_ct (cs_strL T.nd rfl) rfl T.n_str bt_str (pa_cons (pe_bin (os_mul hr tk) (pe_ix ix_seq (pe_var (i := 1) rfl (Or.inl rfl) nd_p.1 nd_p.2) pe_int (fun _ _ => rfl)) (pe_var (i := 3) rfl (Or.inl rfl) nd_times.1 nd_times.2)) pa_nil)) (pe_strS (l := [47]) (by decide +kernel))) (pe_ct (cs_strL T.nd rfl) rfl T.n_str bt_str (pa_cons (pe_bin (os_mul hr tk) (pe_ix ix_seq (pe_var (i := 1) rfl (Or.inl rfl) nd_p.1 nd_p.2) pe_int (fun _ _ => rfl)) (pe_var (i := 3) rfl (Or.inl rfl) nd_times.1 nd_times.2)) pa_nil))) pa_nil))) (pss_cons (ps_set (i := 11) sc__law_spoilt.nd rfl (Or.inl rfl) (pe_strS (l := [97, 98, 99, 100, 101, 102, 103, 104, 105, 106, 107, 108, 109, 110, 111, 112, 113, 114, 115, 116, 117, 118, 119, 120, 121, 122, 65, 66, 67, 68, 69, 70, 71, 72, 73, 74, 75, 76, 77, 78, 79, 80, 81, 82, 83, 84, 85, 86, 87, 88, 89, 90]) (by decide +kernel))) (pss_cons (ps_set (i := 11) sc__law_spoilt.nd rfl (Or.inl rfl) (pe_bin (os_add hr tk) (pe_bin (os_add hr tk) (pe_strS (l := [95, 46, 32, 43, 44, 101]) (by decide +kernel)) (pe_var (i := 11) rfl (Or.inl rfl) nd_signs.1 nd_signs.2)) (pe_strS (l := [33, 34, 35, 36, 38, 39, 40, 41, 42, 58, 59, 60, 61, 62, 63, 64, 91, 92, 93, 94, 96, 123, 124, 125, 126, 10]) (by decide +kernel)))) (pss_cons (ps_set (i := 12) sc__law_spoilt.nd rfl (Or.inl rfl) (pe_ix ix_seq (pe_var (i := 11) rfl (Or.inl rfl) nd_signs.1 nd_signs.2) (pe_cl c__law_digit hr (by decide) tk rfl (pa_cons (pe_var (i := 0) rfl (Or.inl rfl) nd_pot.1 nd_pot.2) (pa_cons (pe_cb cs_len rfl T.n_len bt_len (pa_cons (pe_var (i := 11) rfl (Or.inl rfl) nd_signs.1 nd_signs.2) pa_nil)) pa_nil))) (fun _ _ => rfl))) (pss_cons (ps_set (i := 13) sc__law_spoilt.nd rfl (Or.inl rfl) (pe_cl c__law_digit hr (by decide) tk rfl (pa_cons (pe_var (i := 0) rfl (Or.inl rfl) nd_pot.1 nd_pot.2) (pa_cons (pe_bin (os_add hr tk) (pe_cb cs_len rfl T.n_len bt_len (pa_cons (pe_var (i := 2) rfl (Or.inl rfl) nd_text.1 nd_text.2) pa_nil)) pe_int) pa_nil)))) (pss_cons (ps_expr (pe_bm PySem.F.plainAttrs_list PySem.F.slot_list_append PySem.F.type_list_append mt_append (pe_var (i := 7) rfl (Or.inl rfl) nd_rows.1 nd_rows.2) (pa_cons (pe_bin (os_add hr tk) (pe_bin (os_add hr tk) (pe_slice sl_str (pe_var (i := 2) rfl (Or.inl rfl) nd_text.1 nd_text.2) po_none (po_some (pe_var (i := 13) rfl (Or.inl rfl) nd_place.1 nd_place.2))) (pe_var (i := 12) rfl (Or.inl rfl) nd_sign.1 nd_sign.2)) (pe_slice sl_str (pe_var (i := 2) rfl (Or.inl rfl) nd_text.1 nd_text.2) (po_some (pe_var (i := 13) rfl (Or.inl rfl) nd_place.1 nd_place.2)) po_none)) pa_nil))) (pss_cons (ps_set (i := 13) sc__law_spoilt.nd rfl (Or.inl rfl) (pe_bin (os_add hr tk) pe_int (pe_cl c__law_digit hr (by decide) tk rfl (pa_cons (pe_var (i := 0) rfl (Or.inl rfl) nd_pot.1 nd_pot.2) (pa_cons (pe_cb cs_len rfl T.n_len bt_len (pa_cons (pe_var (i := 2) rfl (Or.inl rfl) nd_text.1 nd_text.2) pa_nil)) pa_nil))))) (pss_cons (ps_expr (pe_bm PySem.F.plainAttrs_list PySem.F.slot_list_append PySem.F.type_list_append mt_append (pe_var (i := 7) rfl (Or.inl rfl) nd_rows.1 nd_rows.2) (pa_cons (pe_bin (os_add hr tk) (pe_bin (os_add hr tk) (pe_slice sl_str (pe_var (i := 2) rfl (Or.inl rfl) nd_text.1 nd_text.2) po_none (po_some (pe_var (i := 13) rfl (Or.inl rfl) nd_place.1 nd_place.2))) (pe_strS (l := [45]) (by decide +kernel))) (pe_slice sl_str (pe_var (i := 2) rfl (Or.inl rfl) nd_text.1 nd_text.2) (po_some (pe_var (i := 13) rfl (Or.inl rfl) nd_place.1 nd_place.2)) po_none)) pa_nil))) (pss_one (ps_ret (pe_var (i := 7) rfl (Or.inl rfl) nd_rows.1 nd_rows.2))))))))))))))))))))), ?_⟩)
  rintro ds m K E - ⟨p, a, b, l, t, m0, rfl, el, lw, ht, ht2, hm, k⟩
  show Ws _ _ _ [some (.ref p), some (pr a b), some (ts l), some (.int t), none, none, none, none, none, none, none, none, none, none] _ _
  dsimp only [cx_G, cx_K]
  have da := lw.da
  have db := lw.db
  have db1 := lw.db.succ
  have dt : Dg 2 t := ⟨by omega⟩
  have dat := lw.da.mul dt
  have dbt := lw.db.mul dt
  have la := numS_len (by decide) da
  have lb := numS_len (by decide) db
  have lb1 := numS_len (by decide) db1
  have lat := numS_len (by decide) dat
  have lbt := numS_len (by decide) dbt
  have ll := wr_len lw
  have lp := wr_pos a b
  rw [← el] at ll lp
  walk_at "gn_1"
  all_goals try first | omega | (simp only [List.length_append, List.length_cons, List.length_nil]; omega)
  let rs0 : List (List Nat) := [[], [32], [45], [47], [45, 48], [48, 48], [43, 48], [47] ++ numS b, [45, 48] ++ numS b, [45, 48] ++ numS b ++ [47] ++ numS (b + 1)]
  have g0 : ∀ x ∈ rs0, Gd x := by
    intro x hx
    simp only [rs0, List.mem_cons, List.not_mem_nil, or_false] at hx
    rcases hx with rfl | rfl | rfl | rfl | rfl | rfl | rfl | rfl | rfl | rfl
    all_goals refine ⟨by simp only [List.length_append, List.length_cons, List.length_nil]; omega, ?_⟩
    · exact no_nil
    · exact no_mem (c := 32) (by simp) (by decide) (by decide) (by decide)
    · exact no_45
    · exact no_47
    · exact no_m0
    · exact no_00
    · exact no_p0
    · exact no_sl _
    · exact no_m0l (numS_no47 b)
    · exact no_m0lm (numS_no47 b)
  refine w2_catV .lst .lst (by show 10 ≤ 1000000; decide) fun q hq => ?_
  let RR : Option D → Option D → Option D → Option D → Option D → Option D → Rho := fun o8 o9 o10 o11 o12 o13 => [some (.ref p), some (pr a b), some (ts l), some (.int t), some (ts (numS a)), some (ts (numS b)), some (ts (numS (b + 1))), some (.ref q), o8, o9, o10, o11, o12, o13]
  let II : Nat → Nat → Rho → Mu → Prop := fun c k r' m' => ∃ (rs : List (List Nat)) (o8 o9 o10 o11 o12 o13 : Option D), r' = RR o8 o9 o10 o11 o12 o13 ∧ m' = (q, .lst (rs.map ts)) :: m ∧ (∀ x ∈ rs, Gd x) ∧ rs.length = c + k
  walk_at "gn_1"
  refine ws_seqI ?_
  walk_at "gn_1"
  all_goals try first | omega | (simp only [List.length_append, List.length_cons, List.length_nil]; omega)
  refine ⟨_, II 10, .lst, ?_, ?_, ?_⟩
  · first | exact ⟨rs0, _, _, _, _, _, _, rfl, rfl, g0, rfl⟩ | exact ⟨_, _, _, _, _, _, _, rfl, rfl, hg, hc⟩
  · rintro k x r' m' hx ⟨rs, o8, o9, o10, o11, o12, o13, rfl, rfl, hg, hc⟩
    have hk : k < 10 := by
      have := (List.getElem?_eq_some_iff.mp hx).1
      simp only [List.length_cons, List.length_nil] at this
      omega
    obtain ⟨u, rfl, hu, hn⟩ : ∃ u : List Nat, x = ts u ∧ u.length ≤ 3000 ∧ NoRd (u ++ l) := by
      have hx := List.mem_of_getElem? hx
      simp only [List.mem_cons, List.not_mem_nil, or_false] at hx
      rcases hx with rfl | rfl | rfl | rfl | rfl
      · exact ⟨_, rfl, by simp only [List.length_append, List.length_cons, List.length_nil]; omega, no_cw l (c := 43) (by simp) (by decide) (by decide) (by decide)⟩
      · exact ⟨_, rfl, by simp only [List.length_append, List.length_cons, List.length_nil]; omega, (by rw [el]; exact no_0w a b)⟩
      · exact ⟨_, rfl, by simp only [List.length_append, List.length_cons, List.length_nil]; omega, no_mm l⟩
      · exact ⟨_, rfl, by simp only [List.length_append, List.length_cons, List.length_nil]; omega, no_cw l (c := 32) (by simp) (by decide) (by decide) (by decide)⟩
      · exact ⟨_, rfl, by simp only [List.length_append, List.length_cons, List.length_nil]; omega, no_cw l (c := 10) (by simp) (by decide) (by decide) (by decide)⟩
    walk_at "gn_1"
    all_goals try first | omega | (simp only [List.length_append, List.length_cons, List.length_nil, List.length_map]; omega)
    refine ⟨rs ++ [u ++ l], _, _, _, _, _, _, rfl, by rw [List.map_append]; rfl, fun y hy => ?_, by rw [List.length_append, hc]; rfl⟩
    rcases List.mem_append.mp hy with h | h
    · exact hg y h
    · rw [List.mem_singleton.mp h]
      exact ⟨by simp only [List.length_append, List.length_cons, List.length_nil]; omega, hn⟩
  rintro r' m' ⟨rs, o8, o9, o10, o11, o12, o13, rfl, rfl, hg, hc⟩
  simp only [List.length_cons, List.length_nil] at hc
  walk_at "gn_1"
  refine ws_seqI ?_
  walk_at "gn_1"
  all_goals try first | omega | (simp only [List.length_append, List.length_cons, List.length_nil]; omega)
  refine ⟨_, II 15, .lst, ?_, ?_, ?_⟩
  · first | exact ⟨rs0, _, _, _, _, _, _, rfl, rfl, g0, rfl⟩ | exact ⟨_, _, _, _, _, _, _, rfl, rfl, hg, hc⟩
  · rintro k x r' m' hx ⟨rs, o8, o9, o10, o11, o12, o13, rfl, rfl, hg, hc⟩
    have hk : k < 10 := by
      have := (List.getElem?_eq_some_iff.mp hx).1
      simp only [List.length_cons, List.length_nil] at this
      omega
    obtain ⟨u, rfl, hu, hn⟩ : ∃ u : List Nat, x = ts u ∧ u.length ≤ 3000 ∧ NoRd (l ++ u) := by
      have hx := List.mem_of_getElem? hx
      simp only [List.mem_cons, List.not_mem_nil, or_false] at hx
      rcases hx with rfl | rfl
      · exact ⟨_, rfl, by simp only [List.length_append, List.length_cons, List.length_nil]; omega, no_wc l (c := 32) (by simp) (by decide) (by decide) (by decide)⟩
      · exact ⟨_, rfl, by simp only [List.length_append, List.length_cons, List.length_nil]; omega, no_wc l (c := 10) (by simp) (by decide) (by decide) (by decide)⟩
    walk_at "gn_1"
    all_goals try first | omega | (simp only [List.length_append, List.length_cons, List.length_nil, List.length_map]; omega)
    refine ⟨rs ++ [l ++ u], _, _, _, _, _, _, rfl, by rw [List.map_append]; rfl, fun y hy => ?_, by rw [List.length_append, hc]; rfl⟩
    rcases List.mem_append.mp hy with h | h
    · exact hg y h
    · rw [List.mem_singleton.mp h]
      exact ⟨by simp only [List.length_append, List.length_cons, List.length_nil]; omega, hn⟩
  rintro r' m' ⟨rs, o8, o9, o10, o11, o12, o13, rfl, rfl, hg, hc⟩
  simp only [List.length_cons, List.length_nil] at hc
  walk_at "gn_1"
  refine ws_seqI ?_
  walk_at "gn_1"
  all_goals try first | omega | (simp only [List.length_append, List.length_cons, List.length_nil]; omega)
  refine ⟨_, II 17, .lst, ?_, ?_, ?_⟩
  · first | exact ⟨rs0, _, _, _, _, _, _, rfl, rfl, g0, rfl⟩ | exact ⟨_, _, _, _, _, _, _, rfl, rfl, hg, hc⟩
  · rintro k x r' m' hx ⟨rs, o8, o9, o10, o11, o12, o13, rfl, rfl, hg, hc⟩
    have hk : k < 10 := by
      have := (List.getElem?_eq_some_iff.mp hx).1
      simp only [List.length_cons, List.length_nil] at this
      omega
    obtain ⟨u, rfl, hu, hn⟩ : ∃ u : List Nat, x = ts u ∧ u.length ≤ 3000 ∧ NoRd (numS a ++ [47] ++ u) := by
      have hx := List.mem_of_getElem? hx
      simp only [List.mem_cons, List.not_mem_nil, or_false] at hx
      rcases hx with rfl | rfl | rfl | rfl
      · exact ⟨_, rfl, by simp only [List.length_append, List.length_cons, List.length_nil]; omega, no_t_ a⟩
      · exact ⟨_, rfl, by simp only [List.length_append, List.length_cons, List.length_nil]; omega, no_t1 a⟩
      · exact ⟨_, rfl, by simp only [List.length_append, List.length_cons, List.length_nil]; omega, no_t0 a⟩
      · exact ⟨_, rfl, by simp only [List.length_append, List.length_cons, List.length_nil]; omega, no_t0l a b⟩
    walk_at "gn_1"
    all_goals try first | omega | (simp only [List.length_append, List.length_cons, List.length_nil, List.length_map]; omega)
    refine ⟨rs ++ [numS a ++ [47] ++ u], _, _, _, _, _, _, rfl, by rw [List.map_append]; rfl, fun y hy => ?_, by rw [List.length_append, hc]; rfl⟩
    rcases List.mem_append.mp hy with h | h
    · exact hg y h
    · rw [List.mem_singleton.mp h]
      exact ⟨by simp only [List.length_append, List.length_cons, List.length_nil]; omega, hn⟩
  rintro r' m' ⟨rs, o8, o9, o10, o11, o12, o13, rfl, rfl, hg, hc⟩
  simp only [List.length_cons, List.length_nil] at hc
  walk_at "gn_1"
  refine ws_seqI ?_
  walk_at "gn_1"
  all_goals try first | omega | (simp only [List.length_append, List.length_cons, List.length_nil]; omega)
  refine ⟨_, II 21, .lst, ?_, ?_, ?_⟩
  · first | exact ⟨rs0, _, _, _, _, _, _, rfl, rfl, g0, rfl⟩ | exact ⟨_, _, _, _, _, _, _, rfl, rfl, hg, hc⟩
  · rintro k x r' m' hx ⟨rs, o8, o9, o10, o11, o12, o13, rfl, rfl, hg, hc⟩
    have hk : k < 10 := by
      have := (List.getElem?_eq_some_iff.mp hx).1
      simp only [List.length_cons, List.length_nil] at this
      omega
    obtain ⟨u, rfl, hu, hn⟩ : ∃ u : List Nat, x = ts u ∧ u.length ≤ 3000 ∧ NoRd (numS a ++ u ++ numS (b + 1)) := by
      have hx := List.mem_of_getElem? hx
      simp only [List.mem_cons, List.not_mem_nil, or_false] at hx
      rcases hx with rfl | rfl | rfl | rfl | rfl | rfl
      · exact ⟨_, rfl, by simp only [List.length_append, List.length_cons, List.length_nil]; omega, no_tm a _⟩
      · exact ⟨_, rfl, by simp only [List.length_append, List.length_cons, List.length_nil]; omega, no_tx _ _ (c := 43) (by simp) (by decide) (by decide) (by decide)⟩
      · exact ⟨_, rfl, by simp only [List.length_append, List.length_cons, List.length_nil]; omega, no_ss a _⟩
      · exact ⟨_, rfl, by simp only [List.length_append, List.length_cons, List.length_nil]; omega, no_tx _ _ (c := 32) (by simp) (by decide) (by decide) (by decide)⟩
      · exact ⟨_, rfl, by simp only [List.length_append, List.length_cons, List.length_nil]; omega, no_tx _ _ (c := 32) (by simp) (by decide) (by decide) (by decide)⟩
      · exact ⟨_, rfl, by simp only [List.length_append, List.length_cons, List.length_nil]; omega, no_sls a _ _⟩
    walk_at "gn_1"
    all_goals try first | omega | (simp only [List.length_append, List.length_cons, List.length_nil, List.length_map]; omega)
    refine ⟨rs ++ [numS a ++ u ++ numS (b + 1)], _, _, _, _, _, _, rfl, by rw [List.map_append]; rfl, fun y hy => ?_, by rw [List.length_append, hc]; rfl⟩
    rcases List.mem_append.mp hy with h | h
    · exact hg y h
    · rw [List.mem_singleton.mp h]
      exact ⟨by simp only [List.length_append, List.length_cons, List.length_nil]; omega, hn⟩
  rintro r' m' ⟨rs, o8, o9, o10, o11, o12, o13, rfl, rfl, hg, hc⟩
  simp only [List.length_cons, List.length_nil] at hc
  obtain ⟨m1, pm1, hm1⟩ := pot_dn (x := (q, .lst (rs.map ts))) hm
  refine Ws.perm pm1 ?_
  walk_at "gn_1"
  refine ⟨_, _, rfl, pot_at hm1 .head, ?_⟩
  walk_at "gn_1"
  all_goals try first | omega | (simp only [List.length_append, List.length_cons, List.length_nil, List.length_map]; omega)
  obtain ⟨m2, pp2, hm2⟩ := pot_put hm1 .head
  refine ⟨_, _, m2, rfl, pot_at hm1 .head, by simp only [List.length_map]; omega, pp2, ?_⟩
  walk_at "gn_1"
  refine ⟨_, _, rfl, pot_at hm2 .head, ?_⟩
  walk_at "gn_1"
  all_goals try first | omega | (simp only [List.length_append, List.length_cons, List.length_nil, List.length_map]; omega) | exact da.bd.mulX dt.bd (by decide) | exact db.bd.mulX dt.bd (by decide)
  obtain ⟨m3, pp3, hm3⟩ := pot_put hm2 .head
  refine ⟨_, _, m3, rfl, pot_at hm2 .head, by simp only [List.length_append, List.length_cons, List.length_nil, List.length_map]; omega, pp3, ?_⟩
  walk_at "gn_1"
  all_goals try first | omega | (simp only [List.length_append, List.length_cons, List.length_nil, List.length_map]; omega)
  refine use_digit (by decide) (bd_lit (by decide)) hm3 fun dg m4 d0 d1 hm4 => ?_
  obtain ⟨c, hc, hcm⟩ := atI_mem d0 d1
  have cb := sg_ok (by decide) hcm
  refine w2_ixS (c := c) (by decide) hc ?_
  have bl : Bd 8000 ((l.length : Nat) : Int) := (show Bd 11 ((l.length : Nat) : Int) by unfold Bd; omega).mono (by decide)
  have bl1 : Bd 8000 (((l.length : Nat) : Int) + 1) := (show Bd 11 (((l.length : Nat) : Int) + 1) by unfold Bd; omega).mono (by decide)
  walk_at "gn_1"
  · omega
  refine use_digit (by omega) bl1 hm4 fun pl m5 p0 p1 hm5 => ?_
  walk_at "gn_1"
  refine ⟨_, _, rfl, pot_at hm5 .head, ?_⟩
  walk_at "gn_1"
  all_goals try first | omega | (simp only [List.length_append, List.length_cons, List.length_nil, List.length_take, List.length_drop]; omega)
  obtain ⟨m6, pp6, hm6⟩ := pot_put hm5 .head
  refine ⟨_, _, m6, rfl, pot_at hm5 .head, by simp only [List.length_append, List.length_cons, List.length_nil, List.length_map]; omega, pp6, ?_⟩
  walk_at "gn_1"
  · omega
  refine use_digit (by omega) bl hm6 fun pn m7 n0 n1 hm7 => ?_
  walk_at "gn_1"
  refine ⟨_, _, rfl, pot_at hm7 .head, ?_⟩
  walk_at "gn_1"
  all_goals try first | omega | (simp only [List.length_append, List.length_cons, List.length_nil, List.length_take, List.length_drop]; omega)
  obtain ⟨m8, pp8, hm8⟩ := pot_put hm7 .head
  refine ⟨_, _, m8, rfl, pot_at hm7 .head, by simp only [List.length_append, List.length_cons, List.length_nil, List.length_map]; omega, pp8, ?_⟩
  obtain ⟨m9, pm9, hm9⟩ := pot_up hm8
  refine Ws.perm pm9 (Ws.freeze (i := 7) rfl ?_)
  have ef : (((rs.map ts ++ [ts (numS a ++ [47] ++ numS b ++ [47])]) ++ [ts (numS (a * t) ++ [47] ++ numS (b * t))]) ++ [ts (l.take pl.toNat ++ [c] ++ l.drop pl.toNat)]) ++ [ts (l.take (1 + pn).toNat ++ [45] ++ l.drop (1 + pn).toNat)] = (rs ++ [numS a ++ [47] ++ numS b ++ [47], numS (a * t) ++ [47] ++ numS (b * t), l.take pl.toNat ++ [c] ++ l.drop pl.toNat, l.take (1 + pn).toNat ++ [45] ++ l.drop (1 + pn).toNat]).map ts := by simp
  rw [ef]
  walk_at "gn_1"
  refine k _ _ hm9 (fun y hy => ?_) (by simp only [List.length_append, List.length_cons, List.length_nil]; omega)
  rcases List.mem_append.mp hy with h | h
  · exact hg y h
  · simp only [List.mem_cons, List.not_mem_nil, or_false] at h
    rcases h with rfl | rfl | rfl | rfl
    all_goals refine ⟨by simp only [List.length_append, List.length_cons, List.length_nil, List.length_take, List.length_drop]; omega, ?_⟩
    · exact no_end _ _
    · exact no_tt lw.pos ht
    · exact no_tx _ _ (c := c) (by simp) cb.1 cb.2.1 cb.2.2
    · exact no_put (by omega) lp
end
end K03
set_option Elab.async false
set_option linter.all false
set_option maxRecDepth 100000
set_option maxHeartbeats 4000000
namespace K03
open PySem PySem.Spec L2 DL
open PyProof.Rows hiding St
open SX (S)
open PySem.NumText (AllDigits digitsVal)
/-! one step, by the goal's head -/

/-! Ratio and Span by numbers: their promises used -/

/-! texts -/

theorem rep_flat (c n : Nat) : (List.replicate n [c]).flatten = List.replicate n c := by simp
/-- n digits c -/
theorem rep_num {c n : Nat} (h0 : 49 ≤ c) (h1 : c ≤ 57) (hn : 1 ≤ n) : AllDigits (List.replicate n c) ∧ TL.numL (digitsVal (List.replicate n c)) = List.replicate n c ∧ 0 < digitsVal (List.replicate n c) := by
  have ha : AllDigits (List.replicate n c) := fun d hd => by
    rw [(List.mem_replicate.mp hd).2]
    omega
  obtain ⟨k, rfl⟩ : ∃ k, n = k + 1 := ⟨n - 1, by omega⟩
  have q := numL_back ha (by rw [List.replicate_succ]; simp) (by rw [List.replicate_succ]; simp; omega)
  exact ⟨ha, q⟩
theorem rep_int {c n : Nat} (h0 : 49 ≤ c) (h1 : c ≤ 57) (hn : 1 ≤ n) (hl : n ≤ 4300) : PySem.intText? (S (List.replicate n c)) = some ((digitsVal (List.replicate n c) : Nat) : Int) :=
  PySem.intText_digits (x := S (List.replicate n c)) (rep_num h0 h1 hn).1 (by
    intro z
    change List.replicate n c = [] at z
    have := congrArg List.length z
    rw [List.length_replicate] at this
    simp at this
    omega) (by rw [SX.S_len, List.length_replicate]; exact hl)
theorem rep_two {c n : Nat} (h0 : 49 ≤ c) (h1 : c ≤ 57) (hn : 2 ≤ n) : (2 : Int) ≤ (digitsVal (List.replicate n c) : Nat) := by
  obtain ⟨k, rfl⟩ : ∃ k, n = k + 2 := ⟨n - 2, by omega⟩
  have p := (rep_num h0 h1 (show 1 ≤ k + 1 by omega)).2.2
  rw [List.replicate_succ', PySem.NumText.digitsVal_snoc]
  omega
theorem rep_wr1 {c n : Nat} (h0 : 49 ≤ c) (h1 : c ≤ 57) (hn : 1 ≤ n) : List.replicate n c = wr (digitsVal (List.replicate n c) : Nat) 1 := by
  unfold wr
  rw [if_pos rfl, numS_nat, (rep_num h0 h1 hn).2.1]
theorem rep_wrm {c n : Nat} (h0 : 49 ≤ c) (h1 : c ≤ 57) (hn : 1 ≤ n) : [45] ++ List.replicate n c = wr (-((digitsVal (List.replicate n c) : Nat) : Int)) 1 := by
  unfold wr
  rw [if_pos rfl, numS_neg (rep_num h0 h1 hn).2.2, (rep_num h0 h1 hn).2.1]
  rfl
theorem rep_wrb {c n : Nat} (h0 : 49 ≤ c) (h1 : c ≤ 57) (hn : 2 ≤ n) : [49, 47] ++ List.replicate n c = wr 1 (digitsVal (List.replicate n c) : Nat) := by
  have h2 := rep_two h0 h1 hn
  unfold wr
  rw [if_neg (by omega), numS_nat, (rep_num h0 h1 (show 1 ≤ n by omega)).2.1]
  have e : numS 1 = [49] := by decide +kernel
  rw [e]
  rfl
section
variable {G : Gx} {C_Ratio C_ZeroBottom C_BadNumber C_CarryError : Addr}
local macro_rules | `(tactic| walk_at "fld_1") => `(tactic| (with_reducible refine we_fldF ?_))
local macro_rules | `(tactic| walk_at "useWe_1") => `(tactic| first | (with_reducible refine we_mt ?_) | (with_reducible refine we_ratG ?_) | (with_reducible refine we_ratG1 ?_) | (with_reducible refine we_stw ?_) | (with_reducible refine we_prt ?_) | (with_reducible refine we_slXp ?_) | (with_reducible refine we_slXs ?_) | (with_reducible refine we_mkV rfl ?_) | (with_reducible refine we_cme ?_) | (with_reducible refine we_lst ?_) | fail)
local macro_rules | `(tactic| walk_at "sWe_1") => `(tactic| first
  | ((with_reducible refine we_var (d := ?d) ?hv ?hk); case hv => rfl)
  | (with_reducible first
    | refine we_cint ?_ | refine we_2 ?_ | refine we_cl0 ?_ | refine we_tup ?_ | refine we_1 ?_ | refine we_c2 ?_ | refine we_cbl ?_ | refine we_cnon ?_ | refine we_cty ?_ | refine we_cref ?_
    | refine we_op ?_ | refine we_andV ?_ | refine we_orV ?_ | refine we_notV ?_ | refine we_3 ?_ | refine we_ifx ?_ | refine we_cstr ?_ | refine we_clH ?_)
  | walk_at "fld_1"
  | walk_at "useWe_1")
local macro_rules | `(tactic| walk_at "useW2_1") => `(tactic| first | (with_reducible refine w2_addS ?_ ?_) | (with_reducible refine w2_eqS ?_) | (with_reducible refine w2_neS ?_) | (with_reducible refine w2_ninS ?_) | (with_reducible refine w2_powF ⟨?_, ?_⟩) | fail)
local macro_rules | `(tactic| walk_at "sW2_1") => `(tactic| first
  | (with_reducible first
    | refine w2_add ?_ | refine w2_sub ?_ | refine w2_mul ⟨?_, ?_⟩ | refine w2_fdiv ⟨?_, ?_⟩ | refine w2_mod ⟨?_, ?_⟩ | refine w2_pow ⟨?_, ?_⟩ | refine w2_eqI ?_ | refine w2_neI ?_ | refine w2_lt ?_ | refine w2_le ?_ | refine w2_gt ?_ | refine w2_ge ?_ | refine w2_eqFI ?_ | refine w2_neFI ?_)
  | ((with_reducible refine w2_ixT (d := ?d) ⟨?hv, ?hk⟩); case hv => rfl)
  | ((with_reducible refine w2_ixL (d := ?d) ⟨?hv, ?hk⟩); case hv => rfl)
  | ((with_reducible refine w2_ixM (d := ?d) .head ⟨?hv, ?hk⟩); case hv => rfl)
  | (with_reducible first
    | refine w2_eqIH ?_ | refine w2_neIH ?_ | refine w2_mulH ⟨?_, ?_⟩ | refine w2_addH ?_ | refine w2_subH ?_ | refine w2_isN ?_ | refine w2_notN ?_ | refine w2_isB ?_ | refine w2_notB ?_)
  | walk_at "useW2_1")
local macro_rules | `(tactic| walk_at "sWa_1") => `(tactic| with_reducible first | refine wa_nil ?_ | refine wa_cons ?_)
local macro_rules | `(tactic| walk_at "useWs_1") => `(tactic| first | (with_reducible refine ws_rs0 ?_) | (with_reducible refine ws_rs ?_) | fail)
local macro_rules | `(tactic| walk_at "sWs_1") => `(tactic| first
  | (with_reducible first | refine ws_seq ?_ | refine ws_ret ?_ | refine ws_asg ?_ | refine ws_next ?_ | refine ws_drop ?_ | refine ws_par ?_ | refine ws_par3 ?_ | refine ws_fldN ?_ | refine ws_brk ?_ | refine ws_cont ?_)
  | walk_at "useWs_1")
local macro_rules | `(tactic| walk_at "sWt_1") => `(tactic| with_reducible first | refine wt_test ?_ | refine wt_tr ?_ | refine wt_and ?_ | refine wt_or ?_ | refine wt_not ?_)
local macro_rules | `(tactic| walk_at "useWc_1") => `(tactic| first | (with_reducible refine wc_intLI ?_) | (with_reducible refine wc_lenS ?_ ?_) | (with_reducible refine wc_strL (by assumption) (by decide) ?_) | (with_reducible refine wc_isiT .str kit_ss ?_) | (with_reducible refine wc_isiC (.ins (by assumption)) (by assumption) ?_) | (with_reducible refine wc_absI ?_) | fail)
local macro_rules | `(tactic| walk_at "sWc_1") => `(tactic| first
  | (with_reducible first | refine wc_int ?_ | refine wc_abs ?_ | refine wc_min ?_ | refine wc_gcd ?_ | refine wc_isiT .int kit_ii ?_ | refine wc_isiT .int kit_ib ?_ | refine wc_len .lst ?_ | refine wc_len .tup ?_ | refine wc_strI ?_ ?_)
  | walk_at "useWc_1")
local macro_rules | `(tactic| walk_at "sWi_1") => `(tactic| fail)
local macro_rules | `(tactic| walk_at "sWg_1") => `(tactic| with_reducible first | refine wg_name ?_ | refine wg_subM ?_ | refine wg_tup rfl ?_)
local macro_rules | `(tactic| walk_at "sW1_1") => `(tactic| first | (with_reducible refine w1_neg ?_) | walk_at "useW2_1")
local macro_rules | `(tactic| walk_at "sWgs_1") => `(tactic| with_reducible first | refine wgs_cons ?_ | refine wgs_nil ?_)
local macro_rules | `(tactic| walk_at "sS_1") => `(tactic| fail)
local macro_rules | `(tactic| walk_at "useT_1") => `(tactic| first | (with_reducible refine mt_of0 (by assumption) (by decide) ?_) | (with_reducible refine RatG.mk ?_ ?_ ?_) | (with_reducible refine @And.intro (@LE.le _ _ _ _) _ ?_ ?_) | fail)
local macro_rules | `(tactic| walk_at "use_1") => `(tactic| first | (with_reducible refine use_reads ?_ ?_ ?_ ?_ ?_) | (with_reducible refine use_refuses ?_ ?_ ?_) | walk_at "useT_1")
local macro_rules | `(tactic| walk_at "sX_1") => `(tactic| first
  | (with_reducible refine ⟨_, rfl, ?_⟩)
  | (with_reducible refine fld_top (by assumption) ?_) | (with_reducible refine fld_bottom (by assumption) ?_)
  | (with_reducible refine ⟨_, .bl, ?_⟩)
  | ((with_reducible refine ⟨?h, ?_⟩); case h => rfl)
  | (with_reducible refine ⟨_, _, rfl, ?_⟩)
  | (with_reducible refine ⟨_, _, _, rfl, ?_⟩)
  | walk_at "use_1"
  | (with_reducible refine setN_top (by assumption) ?_) | (with_reducible refine setN_bottom (by assumption) ?_)
  | ((with_reducible refine ⟨_, _, _, ?j, _, rfl, rfl, .head, ?h, .head, ?_⟩); case h => rfl)
  | fail)
local macro_rules | `(tactic| walk_at "st_1") => `(tactic| first
  | ((with_reducible show We _ _ _ _ _ _); walk_at "sWe_1")
  | ((with_reducible show W2 _ _ _ _ _ _ _ _); walk_at "sW2_1")
  | ((with_reducible show Wa _ _ _ _ _ _); walk_at "sWa_1")
  | ((with_reducible show Ws _ _ _ _ _ _); walk_at "sWs_1")
  | ((with_reducible show Wt _ _ _ _ _ _); walk_at "sWt_1")
  | ((with_reducible show Wc _ _ _ _ _ _ _); walk_at "sWc_1")
  | ((with_reducible show Wi _ _ _ _ _ _); walk_at "sWi_1")
  | ((with_reducible show Wg _ _ _ _ _ _ _); walk_at "sWg_1")
  | ((with_reducible show W1 _ _ _ _ _ _ _); walk_at "sW1_1")
  | ((with_reducible show Wgs _ _ _ _ _ _ _); walk_at "sWgs_1")
  | walk_at "sS_1" | walk_at "sX_1" | fail)
local macro_rules | `(tactic| walk_at "br_1") => `(tactic| ((with_reducible refine ⟨fun hb => ?_, fun hb => ?_⟩) <;> (try simp only [decide_eq_true_eq, decide_eq_false_iff_not, Bool.not_eq_true', Bool.not_eq_false', Bool.and_eq_true, Bool.or_eq_true, reduceCtorEq, List.length_map, Bool.not_true, Bool.not_false, DL.isNon, not_true_eq_false, not_false_eq_true, Classical.not_not, List.all_cons, List.all_nil, id_eq, Bool.and_self, Bool.true_and, decide_true, decide_false] at hb)))
local macro_rules | `(tactic| walk_at "gn_1") => `(tactic| repeat' (first | walk_at "st_1" | walk_at "br_1" | fail))
def S_bounds : SpecD := fun ds m K _ => ∃ c : Nat, ds = [ts [c]] ∧ 49 ≤ c ∧ c ≤ 57 ∧ K (.bl true) m
theorem use_bounds {c : Nat} {m : Mu} {K : KT} {E : Ex → Mu → Prop} (h0 : 49 ≤ c) (h1 : c ≤ 57) (h : K (.bl true) m) : S_bounds [ts [c]] m K E := ⟨c, rfl, h0, h1, h⟩
theorem ok_bounds (T : Txt G C_Ratio C_ZeroBottom C_BadNumber C_CarryError) (c__law_reads : Cal G 4 "_law_reads" 2 S_reads []) (c__law_refuses : Cal G 4 "_law_refuses" 1 S_refuses []) {f : Addr} {fd : FuncData} (F : L2.Fun G.K "_law_bounds" "_law_bounds" s__law_bounds f fd) (b : L2.Binds G.K fd ["sign"] []) : Fnx G 5 f 1 S_bounds [] := by
  refine fnx_of F sc__law_bounds rfl b .nil rfl (fun cdv A outer s H FF hr tk => ⟨_, (pss_cons (ps_set (i := 1) sc__law_bounds.nd rfl (Or.inl rfl) (pe_bin os_mulS (pe_var (i := 0) rfl (Or.inl rfl) nd_sign.1 nd_sign.2) pe_int)) (pss_cons (ps_if (pt_not (pt_tr (pe_cl c__law_reads hr (by decide) tk rfl (pa_cons (pe_var (i := 1) rfl (Or.inl rfl) nd_whole.1 nd_whole.2) (pa_cons (pe_tup (pa_cons (pe_ct (cs_intL T.nd) rfl T.n_int bt_int (pa_cons (pe_var (i := 1) rfl (Or.inl rfl) nd_whole.1 nd_whole.2) pa_nil)) (pa_cons pe_int pa_nil))) pa_nil))))) (pss_one (ps_ret pe_bl)) pss_nil) (pss_cons (ps_if (pt_not (pt_tr (pe_cl c__law_reads hr (by decide) tk rfl (pa_cons (pe_bin (os_add hr tk) (pe_strS (l := [45]) (by decide +kernel)) (pe_slice sl_str (pe_var (i := 1) rfl (Or.inl rfl) nd_whole.1 nd_whole.2) (po_some pe_int) po_none)) (pa_cons (pe_tup (pa_cons (pe_una (us_neg hr tk) (pe_ct (cs_intL T.nd) rfl T.n_int bt_int (pa_cons (pe_slice sl_str (pe_var (i := 1) rfl (Or.inl rfl) nd_whole.1 nd_whole.2) (po_some pe_int) po_none) pa_nil))) (pa_cons pe_int pa_nil))) pa_nil))))) (pss_one (ps_ret pe_bl)) pss_nil) (pss_cons (ps_if (pt_not (pt_tr (pe_cl c__law_reads hr (by decide) tk rfl (pa_cons (pe_bin (os_add hr tk) (pe_strS (l := [49, 47]) (by decide +kernel)) (pe_slice sl_str (pe_var (i := 1) rfl (Or.inl rfl) nd_whole.1 nd_whole.2) (po_some pe_int) po_none)) (pa_cons (pe_tup (pa_cons pe_int (pa_cons (pe_ct (cs_intL T.nd) rfl T.n_int bt_int (pa_cons (pe_slice sl_str (pe_var (i := 1) rfl (Or.inl rfl) nd_whole.1 nd_whole.2) (po_some pe_int) po_none) pa_nil)) pa_nil))) pa_nil))))) (pss_one (ps_ret pe_bl)) pss_nil) (pss_cons (ps_for (passes_of rfl) rfl (pi_seqK (KK := G.K) (by rfl) (pe_lst (pa_cons (pe_bin (os_add hr tk) (pe_var (i := 1) rfl (Or.inl rfl) nd_whole.1 nd_whole.2) (pe_var (i := 0) rfl (Or.inl rfl) nd_sign.1 nd_sign.2)) (pa_cons (pe_bin (os_add hr tk) (pe_strS (l := [45]) (by decide +kernel)) (pe_var (i := 1) rfl (Or.inl rfl) nd_whole.1 nd_whole.2)) (pa_cons (pe_bin (os_add hr tk) (pe_strS (l := [49, 47]) (by decide +kernel)) (pe_slice sl_str (pe_var (i := 1) rfl (Or.inl rfl) nd_whole.1 nd_whole.2) (po_some pe_int) po_none)) (pa_cons (pe_bin (os_add hr tk) (pe_strS (l := [45, 49, 47]) (by decide +kernel)) (pe_slice sl_str (pe_var (i := 1) rfl (Or.inl rfl) nd_whole.1 nd_whole.2) (po_some pe_int) po_none)) pa_nil)))))) (pg_name (i := 2) sc__law_bounds.nd rfl (Or.inl rfl)) (pss_one (ps_if (pt_not (pt_tr (pe_cl c__law_refuses hr (by decide) tk rfl (pa_cons (pe_var (i := 2) rfl (Or.inl rfl) nd_row.1 nd_row.2) pa_nil)))) (pss_one (ps_ret pe_bl)) pss_nil))) (pss_one (ps_ret pe_bl))))))), ?_⟩)
  rintro ds m K E - ⟨c, rfl, c0, c1, k⟩
  show Ws _ _ _ [some (ts [c]), none, none] _ _
  dsimp only [cx_G, cx_K]
  walk_at "gn_1"
  refine w2_mulS 2000 rfl (by simp) (by decide) (by show 1 * 2000 ≤ 1000000; decide) ?_
  rw [rep_flat]
  have e1 : (List.replicate 2000 c).drop (Int.toNat 1) = List.replicate 1999 c := by simp
  have e2 : (List.replicate 2000 c).drop (Int.toNat 2) = List.replicate 1998 c := by simp
  have l0 : (List.replicate 2000 c).length = 2000 := by simp
  have l1 : (List.replicate 1999 c).length = 1999 := by simp
  have l2 : (List.replicate 1998 c).length = 1998 := by simp
  have i0 := rep_int c0 c1 (show 1 ≤ 2000 by decide) (by decide)
  have i1 := rep_int c0 c1 (show 1 ≤ 1999 by decide) (by decide)
  have i2 := rep_int c0 c1 (show 1 ≤ 1998 by decide) (by decide)
  have w0 := rep_wr1 c0 c1 (show 1 ≤ 2000 by decide)
  have w1 := rep_wrm c0 c1 (show 1 ≤ 1999 by decide)
  have w2 := rep_wrb c0 c1 (show 2 ≤ 1998 by decide)
  have t2 := rep_two c0 c1 (show 2 ≤ 1998 by decide)
  generalize List.replicate 2000 c = x0 at *
  generalize List.replicate 1999 c = x1 at *
  generalize List.replicate 1998 c = x2 at *
  walk_at "gn_1"
  refine ws_if ?_
  walk_at "gn_1"
  refine wc_intLT (by omega) i0 ?_
  walk_at "gn_1"
  · exact w0
  · decide
  · exact Nat.gcd_one_right _
  · omega
  refine ws_if ?_
  walk_at "gn_1"
  all_goals try first | omega | (simp only [List.length_append, List.length_cons, List.length_nil, List.length_drop]; omega)
  all_goals try rw [e1]
  refine wc_intLT (by omega) i1 ?_
  walk_at "gn_1"
  · exact w1
  · decide
  · exact Nat.gcd_one_right _
  · simp only [List.length_append, List.length_cons, List.length_nil]; omega
  refine ws_if ?_
  walk_at "gn_1"
  all_goals try first | omega | (simp only [List.length_append, List.length_cons, List.length_nil, List.length_drop]; omega)
  all_goals try rw [e2]
  refine wc_intLT (by omega) i2 ?_
  walk_at "gn_1"
  · exact w2
  · omega
  · exact Nat.gcd_one_left _
  · simp only [List.length_append, List.length_cons, List.length_nil]; omega
  refine ws_seqU ?_
  walk_at "gn_1"
  all_goals try first | omega | (simp only [List.length_append, List.length_cons, List.length_nil, List.length_drop]; omega)
  all_goals try rw [e1]
  all_goals try rw [e2]
  refine ⟨_, .lst, forL_cons (ws_if ?_)⟩
  walk_at "gn_1"
  · simp only [List.length_append, List.length_cons, List.length_nil]; omega
  · exact no_long (by simp only [List.length_append, List.length_cons, List.length_nil]; omega)
  refine forL_cons (ws_if ?_)
  walk_at "gn_1"
  · simp only [List.length_append, List.length_cons, List.length_nil]; omega
  · exact no_long (by simp only [List.length_append, List.length_cons, List.length_nil]; omega)
  refine forL_cons (ws_if ?_)
  walk_at "gn_1"
  · simp only [List.length_append, List.length_cons, List.length_nil]; omega
  · exact no_long (by simp only [List.length_append, List.length_cons, List.length_nil]; omega)
  refine forL_cons (ws_if ?_)
  walk_at "gn_1"
  · simp only [List.length_append, List.length_cons, List.length_nil]; omega
  · exact no_long (by simp only [List.length_append, List.length_cons, List.length_nil]; omega)
  dsimp only
  refine forL_nil ?_
  dsimp only
  walk_at "gn_1"
  exact k
end
end K03
set_option Elab.async false
set_option linter.all false
set_option maxRecDepth 100000
set_option maxHeartbeats 4000000
namespace K03
open PySem PySem.Spec L2 DL
open PyProof.Rows hiding St
open SX (S)
open PySem.NumText (AllDigits digitsVal)
/-! one step, by the goal's head -/

/-! Ratio and Span by numbers: their promises used -/

/-! texts -/

section
variable {G : Gx} {C_Ratio C_ZeroBottom C_BadNumber C_CarryError : Addr}
local macro_rules | `(tactic| walk_at "fld_1") => `(tactic| (with_reducible refine we_fldF ?_))
local macro_rules | `(tactic| walk_at "useWe_1") => `(tactic| first | (with_reducible refine we_mt ?_) | (with_reducible refine we_ratG ?_) | (with_reducible refine we_ratG1 ?_) | (with_reducible refine we_stw ?_) | (with_reducible refine we_prt ?_) | (with_reducible refine we_slXp ?_) | (with_reducible refine we_slXs ?_) | (with_reducible refine we_mkV rfl ?_) | (with_reducible refine we_cme ?_) | (with_reducible refine we_lst ?_) | fail)
local macro_rules | `(tactic| walk_at "sWe_1") => `(tactic| first
  | ((with_reducible refine we_var (d := ?d) ?hv ?hk); case hv => rfl)
  | (with_reducible first
    | refine we_cint ?_ | refine we_2 ?_ | refine we_cl0 ?_ | refine we_tup ?_ | refine we_1 ?_ | refine we_c2 ?_ | refine we_cbl ?_ | refine we_cnon ?_ | refine we_cty ?_ | refine we_cref ?_
    | refine we_op ?_ | refine we_andV ?_ | refine we_orV ?_ | refine we_notV ?_ | refine we_3 ?_ | refine we_ifx ?_ | refine we_cstr ?_ | refine we_clH ?_)
  | walk_at "fld_1"
  | walk_at "useWe_1")
local macro_rules | `(tactic| walk_at "useW2_1") => `(tactic| first | (with_reducible refine w2_addS ?_ ?_) | (with_reducible refine w2_eqS ?_) | (with_reducible refine w2_neS ?_) | (with_reducible refine w2_ninS ?_) | (with_reducible refine w2_powF ⟨?_, ?_⟩) | fail)
local macro_rules | `(tactic| walk_at "sW2_1") => `(tactic| first
  | (with_reducible first
    | refine w2_add ?_ | refine w2_sub ?_ | refine w2_mul ⟨?_, ?_⟩ | refine w2_fdiv ⟨?_, ?_⟩ | refine w2_mod ⟨?_, ?_⟩ | refine w2_pow ⟨?_, ?_⟩ | refine w2_eqI ?_ | refine w2_neI ?_ | refine w2_lt ?_ | refine w2_le ?_ | refine w2_gt ?_ | refine w2_ge ?_ | refine w2_eqFI ?_ | refine w2_neFI ?_)
  | ((with_reducible refine w2_ixT (d := ?d) ⟨?hv, ?hk⟩); case hv => rfl)
  | ((with_reducible refine w2_ixL (d := ?d) ⟨?hv, ?hk⟩); case hv => rfl)
  | ((with_reducible refine w2_ixM (d := ?d) .head ⟨?hv, ?hk⟩); case hv => rfl)
  | (with_reducible first
    | refine w2_eqIH ?_ | refine w2_neIH ?_ | refine w2_mulH ⟨?_, ?_⟩ | refine w2_addH ?_ | refine w2_subH ?_ | refine w2_isN ?_ | refine w2_notN ?_ | refine w2_isB ?_ | refine w2_notB ?_)
  | walk_at "useW2_1")
local macro_rules | `(tactic| walk_at "sWa_1") => `(tactic| with_reducible first | refine wa_nil ?_ | refine wa_cons ?_)
local macro_rules | `(tactic| walk_at "useWs_1") => `(tactic| first | (with_reducible refine ws_rs0 ?_) | (with_reducible refine ws_rs ?_) | fail)
local macro_rules | `(tactic| walk_at "sWs_1") => `(tactic| first
  | (with_reducible first | refine ws_seq ?_ | refine ws_ret ?_ | refine ws_asg ?_ | refine ws_next ?_ | refine ws_drop ?_ | refine ws_par ?_ | refine ws_par3 ?_ | refine ws_fldN ?_ | refine ws_brk ?_ | refine ws_cont ?_)
  | walk_at "useWs_1")
local macro_rules | `(tactic| walk_at "sWt_1") => `(tactic| with_reducible first | refine wt_test ?_ | refine wt_tr ?_ | refine wt_and ?_ | refine wt_or ?_ | refine wt_not ?_)
local macro_rules | `(tactic| walk_at "useWc_1") => `(tactic| first | (with_reducible refine wc_intLI ?_) | (with_reducible refine wc_lenS ?_ ?_) | (with_reducible refine wc_strL (by assumption) (by decide) ?_) | (with_reducible refine wc_isiT .str kit_ss ?_) | (with_reducible refine wc_isiC (.ins (by assumption)) (by assumption) ?_) | (with_reducible refine wc_absI ?_) | fail)
local macro_rules | `(tactic| walk_at "sWc_1") => `(tactic| first
  | (with_reducible first | refine wc_int ?_ | refine wc_abs ?_ | refine wc_min ?_ | refine wc_gcd ?_ | refine wc_isiT .int kit_ii ?_ | refine wc_isiT .int kit_ib ?_ | refine wc_len .lst ?_ | refine wc_len .tup ?_ | refine wc_strI ?_ ?_)
  | walk_at "useWc_1")
local macro_rules | `(tactic| walk_at "sWi_1") => `(tactic| fail)
local macro_rules | `(tactic| walk_at "sWg_1") => `(tactic| with_reducible first | refine wg_name ?_ | refine wg_subM ?_ | refine wg_tup rfl ?_)
local macro_rules | `(tactic| walk_at "sW1_1") => `(tactic| first | (with_reducible refine w1_neg ?_) | walk_at "useW2_1")
local macro_rules | `(tactic| walk_at "sWgs_1") => `(tactic| with_reducible first | refine wgs_cons ?_ | refine wgs_nil ?_)
local macro_rules | `(tactic| walk_at "sS_1") => `(tactic| fail)
local macro_rules | `(tactic| walk_at "useT_1") => `(tactic| first | (with_reducible refine mt_of0 (by assumption) (by decide) ?_) | (with_reducible refine RatG.mk ?_ ?_ ?_) | (with_reducible refine @And.intro (@LE.le _ _ _ _) _ ?_ ?_) | fail)
local macro_rules | `(tactic| walk_at "use_1") => `(tactic| first | (with_reducible refine use_digit ?_ ?_ (by assumption) fun dg m' d0 d1 hpm => ?_) | (with_reducible refine use_written ?_ ?_) | (with_reducible refine use_reads ?_ ?_ ?_ ?_ ?_) | (with_reducible refine use_refuses ?_ ?_ ?_) | (with_reducible refine use_bounds ?_ ?_ ?_) | walk_at "useT_1")
local macro_rules | `(tactic| walk_at "sX_1") => `(tactic| first
  | (with_reducible refine ⟨_, rfl, ?_⟩)
  | (with_reducible refine fld_top (by assumption) ?_) | (with_reducible refine fld_bottom (by assumption) ?_)
  | (with_reducible refine ⟨_, .bl, ?_⟩)
  | ((with_reducible refine ⟨?h, ?_⟩); case h => rfl)
  | (with_reducible refine ⟨_, _, rfl, ?_⟩)
  | (with_reducible refine ⟨_, _, _, rfl, ?_⟩)
  | walk_at "use_1"
  | (with_reducible refine setN_top (by assumption) ?_) | (with_reducible refine setN_bottom (by assumption) ?_)
  | ((with_reducible refine ⟨_, _, _, ?j, _, rfl, rfl, .head, ?h, .head, ?_⟩); case h => rfl)
  | fail)
local macro_rules | `(tactic| walk_at "st_1") => `(tactic| first
  | ((with_reducible show We _ _ _ _ _ _); walk_at "sWe_1")
  | ((with_reducible show W2 _ _ _ _ _ _ _ _); walk_at "sW2_1")
  | ((with_reducible show Wa _ _ _ _ _ _); walk_at "sWa_1")
  | ((with_reducible show Ws _ _ _ _ _ _); walk_at "sWs_1")
  | ((with_reducible show Wt _ _ _ _ _ _); walk_at "sWt_1")
  | ((with_reducible show Wc _ _ _ _ _ _ _); walk_at "sWc_1")
  | ((with_reducible show Wi _ _ _ _ _ _); walk_at "sWi_1")
  | ((with_reducible show Wg _ _ _ _ _ _ _); walk_at "sWg_1")
  | ((with_reducible show W1 _ _ _ _ _ _ _); walk_at "sW1_1")
  | ((with_reducible show Wgs _ _ _ _ _ _ _); walk_at "sWgs_1")
  | walk_at "sS_1" | walk_at "sX_1" | fail)
local macro_rules | `(tactic| walk_at "br_1") => `(tactic| ((with_reducible refine ⟨fun hb => ?_, fun hb => ?_⟩) <;> (try simp only [decide_eq_true_eq, decide_eq_false_iff_not, Bool.not_eq_true', Bool.not_eq_false', Bool.and_eq_true, Bool.or_eq_true, reduceCtorEq, List.length_map, Bool.not_true, Bool.not_false, DL.isNon, not_true_eq_false, not_false_eq_true, Classical.not_not, List.all_cons, List.all_nil, id_eq, Bool.and_self, Bool.true_and, decide_true, decide_false] at hb)))
local macro_rules | `(tactic| walk_at "gn_1") => `(tactic| repeat' (first | walk_at "st_1" | walk_at "br_1" | fail))
theorem ok_law (T : Txt G C_Ratio C_ZeroBottom C_BadNumber C_CarryError) (k_Ratio : Mak G 1 "Ratio" C_Ratio 3 (S_ginit C_Ratio C_ZeroBottom) []) (m_Ratio_text : Met G 1 C_Ratio ["top", "bottom"] "text" 1 (S_gtext C_Ratio) []) (c__law_start : Cal G 1 "_law_start" 1 (S_pot G.K) []) (c__law_digit : Cal G 1 "_law_digit" 2 S_digit []) (c__law_fraction : Cal G 3 "_law_fraction" 1 S_fraction []) (c__law_written : Cal G 1 "_law_written" 1 S_written []) (c__law_reads : Cal G 4 "_law_reads" 2 S_reads []) (c__law_refuses : Cal G 4 "_law_refuses" 1 S_refuses []) (c__law_spoilt : Cal G 2 "_law_spoilt" 4 S_spoilt []) (c__law_bounds : Cal G 5 "_law_bounds" 1 S_bounds []) {f : Addr} {fd : FuncData} (F : L2.Fun G.K "law" "law" s_law f fd) : FnOk G.P G.w G.K G.mg G.base (L2N.CX G.P G.w) 6 f fd ["script"] (spD 1 (S_law G.K)) := by
  refine fnok_of F sc_law rfl (fun cdv A outer s H FF hr tk => ⟨_, (pss_cons (ps_set (i := 1) sc_law.nd rfl (Or.inl rfl) (pe_cl c__law_start hr (by decide) tk rfl (pa_cons (pe_var (i := 0) rfl (Or.inl rfl) nd_script.1 nd_script.2) pa_nil))) (pss_cons (ps_set (i := 2) sc_law.nd rfl (Or.inl rfl) (pe_cl c__law_fraction hr (by decide) tk rfl (pa_cons (pe_var (i := 1) rfl (Or.inl rfl) nd_pot.1 nd_pot.2) pa_nil))) (pss_cons (ps_set (i := 3) sc_law.nd rfl (Or.inl rfl) (pe_bin (os_add hr tk) pe_int (pe_cl c__law_digit hr (by decide) tk rfl (pa_cons (pe_var (i := 1) rfl (Or.inl rfl) nd_pot.1 nd_pot.2) (pa_cons pe_int pa_nil))))) (pss_cons (ps_set (i := 4) sc_law.nd rfl (Or.inl rfl) (pe_cl c__law_written hr (by decide) tk rfl (pa_cons (pe_var (i := 2) rfl (Or.inl rfl) nd_p.1 nd_p.2) pa_nil))) (pss_cons (ps_if (pt_cm (os_neF hr tk) (pe_mth0 hr tk (pe_mak k_Ratio hr (by decide) tk rfl (pa_cons (pe_ix ix_seq (pe_var (i := 2) rfl (Or.inl rfl) nd_p.1 nd_p.2) pe_int (fun _ _ => rfl)) (pa_cons (pe_ix ix_seq (pe_var (i := 2) rfl (Or.inl rfl) nd_p.1 nd_p.2) pe_int (fun _ _ => rfl)) pa_nil)))) (pe_var (i := 4) rfl (Or.inl rfl) nd_text.1 nd_text.2) (nomark _)) (pss_one (ps_ret pe_bl)) pss_nil) (pss_cons (ps_if (pt_cm (os_neF hr tk) (pe_mth0 hr tk (pe_mak k_Ratio hr (by decide) tk rfl (pa_cons (pe_bin (os_mul hr tk) (pe_una (us_neg hr tk) (pe_ix ix_seq (pe_var (i := 2) rfl (Or.inl rfl) nd_p.1 nd_p.2) pe_int (fun _ _ => rfl))) (pe_var (i := 3) rfl (Or.inl rfl) nd_times.1 nd_times.2)) (pa_cons (pe_bin (os_mul hr tk) (pe_una (us_neg hr tk) (pe_ix ix_seq (pe_var (i := 2) rfl (Or.inl rfl) nd_p.1 nd_p.2) pe_int (fun _ _ => rfl))) (pe_var (i := 3) rfl (Or.inl rfl) nd_times.1 nd_times.2)) pa_nil)))) (pe_var (i := 4) rfl (Or.inl rfl) nd_text.1 nd_text.2) (nomark _)) (pss_one (ps_ret pe_bl)) pss_nil) (pss_cons (ps_if (pt_not (pt_tr (pe_cl c__law_reads hr (by decide) tk rfl (pa_cons (pe_var (i := 4) rfl (Or.inl rfl) nd_text.1 nd_text.2) (pa_cons (pe_var (i := 2) rfl (Or.inl rfl) nd_p.1 nd_p.2) pa_nil))))) (pss_one (ps_ret pe_bl)) pss_nil) (pss_cons (ps_for (passes_of rfl) rfl (pi_seqK (KK := G.K) (by rfl) (pe_cl c__law_spoilt hr (by decide) tk rfl (pa_cons (pe_var (i := 1) rfl (Or.inl rfl) nd_pot.1 nd_pot.2) (pa_cons (pe_var (i := 2) rfl (Or.inl rfl) nd_p.1 nd_p.2) (pa_cons (pe_var (i := 4) rfl (Or.inl rfl) nd_text.1 nd_text.2) (pa_cons (pe_var (i := 3) rfl (Or.inl rfl) nd_times.1 nd_times.2) pa_nil)))))) (pg_name (i := 5) sc_law.nd rfl (Or.inl rfl)) (pss_one (ps_if (pt_not (pt_tr (pe_cl c__law_refuses hr (by decide) tk rfl (pa_cons (pe_var (i := 5) rfl (Or.inl rfl) nd_row.1 nd_row.2) pa_nil)))) (pss_one (ps_ret pe_bl)) pss_nil))) (pss_cons (ps_if (pt_not (pt_tr (pe_cl c__law_bounds hr (by decide) tk rfl (pa_cons (pe_ix ix_seq (pe_strS (l := [49, 50, 51, 52, 53, 54, 55, 56, 57]) (by decide +kernel)) (pe_cl c__law_digit hr (by decide) tk rfl (pa_cons (pe_var (i := 1) rfl (Or.inl rfl) nd_pot.1 nd_pot.2) (pa_cons pe_int pa_nil))) (fun _ _ => rfl)) pa_nil)))) (pss_one (ps_ret pe_bl)) pss_nil) (pss_cons (ps_for (passes_of rfl) rfl (pi_seqK (KK := G.K) (by rfl) (pe_lst (pa_cons pe_int (pa_cons pe_int (pa_cons (pe_una (us_neg hr tk) pe_int) (pa_cons pe_int (pa_cons (pe_una (us_neg hr tk) pe_int) pa_nil))))))) (pg_name (i := 6) sc_law.nd rfl (Or.inl rfl)) (pss_one (ps_if (pt_not (pt_tr (pe_cl c__law_reads hr (by decide) tk rfl (pa_cons (pe_ct (cs_strL T.nd rfl) rfl T.n_str bt_str (pa_cons (pe_var (i := 6) rfl (Or.inl rfl) nd_n.1 nd_n.2) pa_nil)) (pa_cons (pe_tup (pa_cons (pe_var (i := 6) rfl (Or.inl rfl) nd_n.1 nd_n.2) (pa_cons pe_int pa_nil))) pa_nil))))) (pss_one (ps_ret pe_bl)) pss_nil))) (pss_one (ps_ret (pe_and (pe_cl c__law_reads hr (by decide) tk rfl (pa_cons (pe_strS (l := [45, 49, 47, 50]) (by decide +kernel)) (pa_cons (pe_tup (pa_cons (pe_una (us_neg hr tk) pe_int) (pa_cons pe_int pa_nil))) pa_nil))) (pe_and (pe_cl c__law_reads hr (by decide) tk rfl (pa_cons (pe_strS (l := [49, 48, 48, 47, 51]) (by decide +kernel)) (pa_cons (pe_tup (pa_cons pe_int (pa_cons pe_int pa_nil))) pa_nil))) (pe_one (pe_cl c__law_reads hr (by decide) tk rfl (pa_cons (pe_var (i := 4) rfl (Or.inl rfl) nd_text.1 nd_text.2) (pa_cons (pe_var (i := 2) rfl (Or.inl rfl) nd_p.1 nd_p.2) pa_nil)))))))))))))))))), ?_⟩)
  rintro ds m K E - ⟨d, ns, rfl, sd, hl, hb, rfl, k⟩
  show Ws _ _ _ [some d, none, none, none, none, none, none] _ _
  try dsimp only [cx_G, cx_K]
  have R := T.R_Ratio
  walk_at "gn_1"
  refine ⟨d, ns, rfl, sd, hl, fun p m1 hp hm => ?_⟩
  walk_at "gn_1"
  refine use_fraction hm fun a b m2 lw hm2 => ?_
  have rq1 : rq C_Ratio (dv a b) = pq C_Ratio a b := rq_low (by have := lw.pos; omega) lw.co
  have da := lw.da
  have db := lw.db
  have wl := wr_len lw
  walk_at "gn_1"
  all_goals try first | decide | exact bd_lit (by decide) | exact lw
  rename_i dg m3 d0 d1 hm3
  have bp := lw.pos
  have en : (dv a b).num = a ∧ ((dv a b).den : Int) = b := by
    have r := rT_dv (t := a) (b := b) (by omega)
    have q := rat_low (t := a) (b := b) (by omega) lw.co
    rw [← r.1, ← r.2]
    exact q
  have tx : ∀ {K : KT} {m : Mu} {E : Ex → Mu → Prop}, K (ts (wr a b)) m → S_gtext C_Ratio [rq C_Ratio (dv a b)] m K E := fun {K m E} h => ⟨_, 999, rfl, by decide, by rw [en.1]; exact da.mono (by decide), by rw [en.2]; exact db, by rw [en.1, en.2]; exact h⟩
  refine ws_if ?_
  walk_at "gn_1"
  · omega
  · exact dok_one lw.co
  refine tx ?_
  walk_at "gn_1"
  have dt : Dg 2 (2 + dg) := ⟨by omega⟩
  have et : dv (-a * (2 + dg)) (-b * (2 + dg)) = dv a b := by
    rw [show -a * (2 + dg) = a * (-(2 + dg)) by rw [Int.neg_mul, Int.mul_neg], show -b * (2 + dg) = b * (-(2 + dg)) by rw [Int.neg_mul, Int.mul_neg]]
    exact dv_scale (by omega)
  have nz : -b * (2 + dg) ≠ 0 := Int.mul_ne_zero (by omega) (by omega)
  have eg : gc (-a * (2 + dg)) (-b * (2 + dg)) = 2 + dg := by
    unfold gc
    rw [Int.natAbs_mul, Int.natAbs_mul, Int.natAbs_neg, Int.natAbs_neg, Nat.gcd_mul_right, lw.co, Nat.one_mul]
    omega
  refine ws_if ?_
  walk_at "gn_1"
  · exact da.bd.neg.mulX dt.bd (by decide)
  · exact db.bd.neg.mulX dt.bd (by decide)
  · exact nz
  · exact dok_gc nz (by rw [eg]; exact dt.bd) (by decide)
  rw [et]
  refine tx ?_
  walk_at "gn_1"
  refine ws_if ?_
  walk_at "gn_1"
  · rfl
  · exact bp
  · exact lw.co
  · omega
  refine ws_seqI ?_
  walk_at "gn_1"
  refine use_spoilt rfl lw (by omega) (by omega) hm3 fun rs m4 hm4 hg hlen => ?_
  refine ⟨_, fun i r' m' => m' = m4 ∧ ∃ o, r' = [some d, some (.ref p), some (pr a b), some (.int (2 + dg)), some (ts (wr a b)), o, none], .lst, ⟨rfl, _, rfl⟩, ?_, ?_⟩
  · rintro i x r' m' hx ⟨rfl, o, rfl⟩
    obtain ⟨u, hu, rfl⟩ := List.mem_map.mp (List.mem_of_getElem? hx)
    have gu := hg u hu
    walk_at "gn_1"
    refine ws_if ?_
    walk_at "gn_1"
    · exact gu.1
    · exact gu.2
    · exact ⟨_, rfl⟩
  rintro r' m' ⟨rfl, o, rfl⟩
  walk_at "gn_1"
  refine ws_if ?_
  walk_at "gn_1"
  · decide
  · exact bd_lit (by decide)
  rename_i dc m5 c0 c1 hm5
  obtain ⟨c, hc, c2, c3⟩ := nine c0 c1
  refine w2_ixS (c := c) (by decide) hc ?_
  walk_at "gn_1"
  · exact c2
  · exact c3
  have g0 : Dg 3 (0 : Int) := ⟨by decide⟩
  have g1 : Dg 3 (1 : Int) := ⟨by decide⟩
  have g2 : Dg 3 (-1 : Int) := ⟨by decide⟩
  have g3 : Dg 3 (10 : Int) := ⟨by decide⟩
  have g4 : Dg 3 (-205 : Int) := ⟨by decide⟩
  have wn : ∀ n : Int, numS n = wr n 1 := fun n => by
    unfold wr
    rw [if_pos rfl]
  refine ws_seqU ?_
  walk_at "gn_1"
  refine ⟨_, .lst, forL_cons (ws_if ?_)⟩
  walk_at "gn_1"
  · exact wn _
  · decide
  · exact Nat.gcd_one_right _
  · exact Nat.le_trans (numS_len (by decide) g0) (by decide)
  refine forL_cons (ws_if ?_)
  walk_at "gn_1"
  · exact wn _
  · decide
  · exact Nat.gcd_one_right _
  · exact Nat.le_trans (numS_len (by decide) g1) (by decide)
  refine forL_cons (ws_if ?_)
  walk_at "gn_1"
  · exact wn _
  · decide
  · exact Nat.gcd_one_right _
  · exact Nat.le_trans (numS_len (by decide) g2) (by decide)
  refine forL_cons (ws_if ?_)
  walk_at "gn_1"
  · exact wn _
  · decide
  · exact Nat.gcd_one_right _
  · exact Nat.le_trans (numS_len (by decide) g3) (by decide)
  refine forL_cons (ws_if ?_)
  walk_at "gn_1"
  · exact wn _
  · decide
  · exact Nat.gcd_one_right _
  · exact Nat.le_trans (numS_len (by decide) g4) (by decide)
  dsimp only
  refine forL_nil ?_
  dsimp only
  walk_at "gn_1"
  all_goals first
    | exact bp
    | exact lw.co
    | exact k _
    | (with_reducible rfl)
    | decide +kernel
    | omega
end
end K03
set_option Elab.async false
set_option linter.all false
set_option maxRecDepth 100000
set_option maxHeartbeats 4000000
namespace K03
open PySem PySem.Spec L2 DL
open PyProof.Rows hiding St
theorem okx_BadNumber {G : Gx} {C_BadNumber : Addr} (ox : OexC G.K C_BadNumber) (no1 : PySem.W.findIn G.K (.ref C_BadNumber) "given" = some none) {f : Addr} {fd : FuncData} (F : L2.Fun G.K "__init__" "BadNumber.__init__" s_BadNumber___init__ f fd) : FnOk G.P G.w G.K G.mg G.base CX0 1 f fd ["self", "given"] (spXI C_BadNumber ["given"]) := by
  refine F.ok sc_BadNumber___init__ (fun vs H Q E h => ?_) (fun cdv A outer s H vs Q E hr h => ?_)
  · obtain ⟨a, ys, rfl, hl, _⟩ := h
    rw [List.length_cons, hl]
    rfl
  · obtain ⟨a, ys, rfl, hl, ha, k⟩ := h
    match ys, hl with
    | [y1], _ =>
      refine ⟨_, pss_one (ps_ost (pv 0) (pv 1)), ?_⟩
      refine ⟨_, rfl, _, rfl, a, C_BadNumber, rfl, ox, no1, .inl ⟨ha, fun dx hdx hne => ?_⟩⟩
      exact k dx _ hdx hne (fun b hb1 hb2 => by rw [upd_ne hb1, upd_ne hb2]) upd_same (by rw [upd_ne hne]; exact upd_same)
theorem all_mk {l : PySem.W.OpenLaw} {w : World} {K : PySem.W.Frag} {h : Heap} {mg : Str → Option Value} {fa : Addr} (X : K.In h) (Gn : h.Ns mainGlobals mg) (hfa : mg "law" = some (.ref fa))
    {C_Ratio : Addr} {C_ZeroBottom : Addr} {C_BadNumber N_e_BadNumber : Addr} {nm_BadNumber q_BadNumber : Str} {bs_BadNumber bm_BadNumber sn_BadNumber : _} {sub_BadNumber ab_BadNumber col_BadNumber dd_BadNumber m0_BadNumber m1_BadNumber m2_BadNumber m3_BadNumber m5_BadNumber : _} {C_CarryError : Addr} {f_Ratio___init__ : Addr} {od_Ratio___init__ an_Ratio___init__ : Option Addr} {sl_Ratio___init__ : Array (Option Value)} {oc_Ratio___init__ kV_Ratio___init__ dc_Ratio___init__ pm_Ratio___init__ cd_Ratio___init__ ct_Ratio___init__ : Value} {T_Ratio___init__ : Addr} {tk_Ratio___init__ : Tok} {oT_Ratio___init__ : Option Addr} {nT_Ratio___init__ : Nat} {sT_Ratio___init__ : Array (Option Value)} {cT_Ratio___init__ : Value} {f_Ratio_text : Addr} {od_Ratio_text an_Ratio_text : Option Addr} {sl_Ratio_text : Array (Option Value)} {oc_Ratio_text kV_Ratio_text dc_Ratio_text pm_Ratio_text cd_Ratio_text ct_Ratio_text : Value} {f_whole_of : Addr} {od_whole_of an_whole_of : Option Addr} {sl_whole_of : Array (Option Value)} {oc_whole_of kV_whole_of dc_whole_of pm_whole_of cd_whole_of ct_whole_of : Value} {f_Ratio_read : Addr} {od_Ratio_read an_Ratio_read : Option Addr} {sl_Ratio_read : Array (Option Value)} {oc_Ratio_read kV_Ratio_read dc_Ratio_read pm_Ratio_read cd_Ratio_read ct_Ratio_read : Value} {p_Ratio_read : Addr} {rr_Ratio_read : List Value} {f__law_start : Addr} {od__law_start an__law_start : Option Addr} {sl__law_start : Array (Option Value)} {oc__law_start kV__law_start dc__law_start pm__law_start cd__law_start ct__law_start : Value} {f__law_digit : Addr} {od__law_digit an__law_digit : Option Addr} {sl__law_digit : Array (Option Value)} {oc__law_digit kV__law_digit dc__law_digit pm__law_digit cd__law_digit ct__law_digit : Value} {f__law_lowest : Addr} {od__law_lowest an__law_lowest : Option Addr} {sl__law_lowest : Array (Option Value)} {oc__law_lowest kV__law_lowest dc__law_lowest pm__law_lowest cd__law_lowest ct__law_lowest : Value} {f__law_long : Addr} {od__law_long an__law_long : Option Addr} {sl__law_long : Array (Option Value)} {oc__law_long kV__law_long dc__law_long pm__law_long cd__law_long ct__law_long : Value} {f__law_fraction : Addr} {od__law_fraction an__law_fraction : Option Addr} {sl__law_fraction : Array (Option Value)} {oc__law_fraction kV__law_fraction dc__law_fraction pm__law_fraction cd__law_fraction ct__law_fraction : Value} {f__law_written : Addr} {od__law_written an__law_written : Option Addr} {sl__law_written : Array (Option Value)} {oc__law_written kV__law_written dc__law_written pm__law_written cd__law_written ct__law_written : Value} {f__law_reads : Addr} {od__law_reads an__law_reads : Option Addr} {sl__law_reads : Array (Option Value)} {oc__law_reads kV__law_reads dc__law_reads pm__law_reads cd__law_reads ct__law_reads : Value} {f__law_refuses : Addr} {od__law_refuses an__law_refuses : Option Addr} {sl__law_refuses : Array (Option Value)} {oc__law_refuses kV__law_refuses dc__law_refuses pm__law_refuses cd__law_refuses ct__law_refuses : Value} {f__law_spoilt : Addr} {od__law_spoilt an__law_spoilt : Option Addr} {sl__law_spoilt : Array (Option Value)} {oc__law_spoilt kV__law_spoilt dc__law_spoilt pm__law_spoilt cd__law_spoilt ct__law_spoilt : Value} {f__law_bounds : Addr} {od__law_bounds an__law_bounds : Option Addr} {sl__law_bounds : Array (Option Value)} {oc__law_bounds kV__law_bounds dc__law_bounds pm__law_bounds cd__law_bounds ct__law_bounds : Value} {f_law : Addr} {od_law an_law : Option Addr} {sl_law : Array (Option Value)} {oc_law kV_law dc_law pm_law cd_law ct_law : Value} {f_BadNumber___init__ : Addr} {od_BadNumber___init__ an_BadNumber___init__ : Option Addr} {sl_BadNumber___init__ : Array (Option Value)} {oc_BadNumber___init__ kV_BadNumber___init__ dc_BadNumber___init__ pm_BadNumber___init__ cd_BadNumber___init__ ct_BadNumber___init__ : Value} {tk_MOST_DIGITS : Tok} {tk_MOST_CHARACTERS : Tok} {tk_DIGITS : Tok}
    (a_Ratio : PySem.W.nsIn K mainGlobals "Ratio" = some (some (.ref C_Ratio)))
    (pg_Ratio : PySem.W.plainGet K C_Ratio Str.empty = true)
    (hd_Ratio : PySem.W.hasDictIn K C_Ratio = true)
    (po_Ratio : PySem.W.plainOver K C_Ratio = true)
    (sa_Ratio : PySem.W.findIn K (.ref C_Ratio) "__setattr__" = some (some (.builtin "object.__setattr__")))
    (mk_Ratio : PySem.W.makesIn K C_Ratio = true)
    (sf_Ratio : PySem.W.selfFirst K C_Ratio = true)
    (kc_Ratio : PySem.W.keepIn K (.ref C_Ratio) = true)
    (ha_Ratio : PySem.W.findIn K (.ref C_Ratio) "__class__" = some (some (.builtin "object.__class__")))
    (mo_Ratio : PySem.W.mroIn K C_Ratio (.type "object") = some true)
    (is_Ratio : PySem.W.isClsIn K C_Ratio = true)
    (su_Ratio : PySem.W.subIn K (.ref C_Ratio) (.ref C_Ratio) = some true)
    (ty_Ratio : PySem.W.typeIn K (.ref C_Ratio) = some (.type "type"))
    (no_top_Ratio : PySem.W.findIn K (.ref C_Ratio) "top" = some none)
    (no_bottom_Ratio : PySem.W.findIn K (.ref C_Ratio) "bottom" = some none)
    (a_ZeroBottom : PySem.W.nsIn K mainGlobals "ZeroBottom" = some (some (.ref C_ZeroBottom)))
    (xi_ZeroBottom : PySem.W.excIn K C_ZeroBottom [.type "ValueError", .type "Exception", .type "BaseException", .type "object"] "ValueError.__new__" = true)
    (ex_ZeroBottom : PySem.W.subIn K (.ref C_ZeroBottom) (.type "BaseException") = some true)
    (ty_ZeroBottom : PySem.W.typeIn K (.ref C_ZeroBottom) = some (.type "type"))
    (kc_ZeroBottom : PySem.W.keepIn K (.ref C_ZeroBottom) = true)
    (ga_ZeroBottom : PySem.W.findIn K (.ref C_ZeroBottom) "__getattribute__" = some (some (.builtin "BaseException.__getattribute__")))
    (gg_ZeroBottom : PySem.W.findIn K (.ref C_ZeroBottom) "__getattr__" = some none)
    (hd_ZeroBottom : PySem.W.hasDictIn K C_ZeroBottom = true)
    (ha_ZeroBottom : PySem.W.findIn K (.ref C_ZeroBottom) "__class__" = some (some (.builtin "object.__class__")))
    (mo_ZeroBottom : PySem.W.mroIn K C_ZeroBottom (.type "object") = some true)
    (is_ZeroBottom : PySem.W.isClsIn K C_ZeroBottom = true)
    (su_ZeroBottom : PySem.W.subIn K (.ref C_ZeroBottom) (.ref C_ZeroBottom) = some true)
    (a_BadNumber : PySem.W.nsIn K mainGlobals "BadNumber" = some (some (.ref C_BadNumber)))
    (l_BadNumber : K.lookup C_BadNumber = some (excClassObj nm_BadNumber q_BadNumber C_BadNumber N_e_BadNumber bs_BadNumber bm_BadNumber true sn_BadNumber sub_BadNumber ab_BadNumber col_BadNumber dd_BadNumber m0_BadNumber m1_BadNumber m2_BadNumber m3_BadNumber m5_BadNumber "ValueError.__new__"))
    (rf_BadNumber : PySem.HandSPX.refsVE bm_BadNumber = true)
    (sa_BadNumber : PySem.W.findIn K (.ref C_BadNumber) "__setattr__" = some (some (.builtin "object.__setattr__")))
    (ex_BadNumber : PySem.W.subIn K (.ref C_BadNumber) (.type "BaseException") = some true)
    (ty_BadNumber : PySem.W.typeIn K (.ref C_BadNumber) = some (.type "type"))
    (kc_BadNumber : PySem.W.keepIn K (.ref C_BadNumber) = true)
    (ga_BadNumber : PySem.W.findIn K (.ref C_BadNumber) "__getattribute__" = some (some (.builtin "BaseException.__getattribute__")))
    (gg_BadNumber : PySem.W.findIn K (.ref C_BadNumber) "__getattr__" = some none)
    (hd_BadNumber : PySem.W.hasDictIn K C_BadNumber = true)
    (ha_BadNumber : PySem.W.findIn K (.ref C_BadNumber) "__class__" = some (some (.builtin "object.__class__")))
    (mo_BadNumber : PySem.W.mroIn K C_BadNumber (.type "object") = some true)
    (is_BadNumber : PySem.W.isClsIn K C_BadNumber = true)
    (su_BadNumber : PySem.W.subIn K (.ref C_BadNumber) (.ref C_BadNumber) = some true)
    (no_given_BadNumber : PySem.W.findIn K (.ref C_BadNumber) "given" = some none)
    (a_CarryError : PySem.W.nsIn K mainGlobals "CarryError" = some (some (.ref C_CarryError)))
    (ex_CarryError : PySem.W.subIn K (.ref C_CarryError) (.type "BaseException") = some true)
    (ty_CarryError : PySem.W.typeIn K (.ref C_CarryError) = some (.type "type"))
    (hd_CarryError : PySem.W.hasDictIn K C_CarryError = true)
    (is_CarryError : PySem.W.isClsIn K C_CarryError = true)
    (su_BadNumber_ZeroBottom : PySem.W.subIn K (.ref C_BadNumber) (.ref C_ZeroBottom) = some false)
    (su_BadNumber_CarryError : PySem.W.subIn K (.ref C_BadNumber) (.ref C_CarryError) = some true)
    (sT_BadNumber_ValueError : PySem.W.subIn K (.ref C_BadNumber) (.type "ValueError") = some true)
    (gs : PySem.W.specialIn K (.builtin "object.__class__") "__get__" = some (some (.builtin "getset_descriptor.__get__")))
    (gt : PySem.W.takesIn K (.builtin "object.__class__") = some true)
    (nd2 : PySem.W.nsIn K cStatics "sys.int_max_str_digits" = some none)
    (a_Ratio___init__ : PySem.W.findIn K (.ref C_Ratio) "__init__" = some (some (.ref f_Ratio___init__)))
    (i_Ratio___init__ : PySem.W.isFn K (.ref f_Ratio___init__) = true)
    (l_Ratio___init__ : K.lookup f_Ratio___init__ = some ⟨oc_Ratio___init__, od_Ratio___init__, .func (PySem.W.fnOf "__init__" "Ratio.__init__" (defArgs s_Ratio___init__) (defBody s_Ratio___init__) (defScope s_Ratio___init__) (.ref T_Ratio___init__) kV_Ratio___init__ dc_Ratio___init__ pm_Ratio___init__ an_Ratio___init__ cd_Ratio___init__ ct_Ratio___init__), sl_Ratio___init__⟩)
    (lT_Ratio___init__ : K.lookup T_Ratio___init__ = some ⟨cT_Ratio___init__, oT_Ratio___init__, .seq [Value.int 1 tk_Ratio___init__].toArray nT_Ratio___init__, sT_Ratio___init__⟩)
    (c_Ratio___init__ : PySem.W.codeIn K cd_Ratio___init__ "Ratio.__init__" = true)
    (k_Ratio___init__ : PySem.W.keepIn K (.ref f_Ratio___init__) = true)
    (a_Ratio_text : PySem.W.findIn K (.ref C_Ratio) "text" = some (some (.ref f_Ratio_text)))
    (i_Ratio_text : PySem.W.isFn K (.ref f_Ratio_text) = true)
    (l_Ratio_text : K.lookup f_Ratio_text = some ⟨oc_Ratio_text, od_Ratio_text, .func (PySem.W.fnOf "text" "Ratio.text" (defArgs s_Ratio_text) (defBody s_Ratio_text) (defScope s_Ratio_text) .none kV_Ratio_text dc_Ratio_text pm_Ratio_text an_Ratio_text cd_Ratio_text ct_Ratio_text), sl_Ratio_text⟩)
    (c_Ratio_text : PySem.W.codeIn K cd_Ratio_text "Ratio.text" = true)
    (k_Ratio_text : PySem.W.keepIn K (.ref f_Ratio_text) = true)
    (a_whole_of : PySem.W.nsIn K mainGlobals "whole_of" = some (some (.ref f_whole_of)))
    (l_whole_of : K.lookup f_whole_of = some ⟨oc_whole_of, od_whole_of, .func (PySem.W.fnOf "whole_of" "whole_of" (defArgs s_whole_of) (defBody s_whole_of) (defScope s_whole_of) .none kV_whole_of dc_whole_of pm_whole_of an_whole_of cd_whole_of ct_whole_of), sl_whole_of⟩)
    (c_whole_of : PySem.W.codeIn K cd_whole_of "whole_of" = true)
    (k_whole_of : PySem.W.keepIn K (.ref f_whole_of) = true)
    (a_Ratio_read : PySem.W.findCls K (.ref C_Ratio) (.type "type") "read" = some (.get (.builtin "classmethod.__get__") (.ref p_Ratio_read) .none (.ref C_Ratio)))
    (r_Ratio_read : PySem.W.recIn K p_Ratio_read "classmethod" = some (.ref f_Ratio_read :: rr_Ratio_read))
    (rd_Ratio_read : PySem.W.readsIn K C_Ratio (.type "type") = true)
    (ga_Ratio_read : PySem.W.specialIn K (.ref C_Ratio) "__getattribute__" = some (some (.builtin "type.__getattribute__")))
    (fi_Ratio_read : PySem.W.fnIn K f_Ratio_read = true)
    (l_Ratio_read : K.lookup f_Ratio_read = some ⟨oc_Ratio_read, od_Ratio_read, .func (PySem.W.fnOf "read" "Ratio.read" (defArgs s_Ratio_read) (defBody s_Ratio_read) (defScope s_Ratio_read) .none kV_Ratio_read dc_Ratio_read pm_Ratio_read an_Ratio_read cd_Ratio_read ct_Ratio_read), sl_Ratio_read⟩)
    (c_Ratio_read : PySem.W.codeIn K cd_Ratio_read "Ratio.read" = true)
    (k_Ratio_read : PySem.W.keepIn K (.ref f_Ratio_read) = true)
    (a__law_start : PySem.W.nsIn K mainGlobals "_law_start" = some (some (.ref f__law_start)))
    (l__law_start : K.lookup f__law_start = some ⟨oc__law_start, od__law_start, .func (PySem.W.fnOf "_law_start" "_law_start" (defArgs s__law_start) (defBody s__law_start) (defScope s__law_start) .none kV__law_start dc__law_start pm__law_start an__law_start cd__law_start ct__law_start), sl__law_start⟩)
    (c__law_start : PySem.W.codeIn K cd__law_start "_law_start" = true)
    (k__law_start : PySem.W.keepIn K (.ref f__law_start) = true)
    (a__law_digit : PySem.W.nsIn K mainGlobals "_law_digit" = some (some (.ref f__law_digit)))
    (l__law_digit : K.lookup f__law_digit = some ⟨oc__law_digit, od__law_digit, .func (PySem.W.fnOf "_law_digit" "_law_digit" (defArgs s__law_digit) (defBody s__law_digit) (defScope s__law_digit) .none kV__law_digit dc__law_digit pm__law_digit an__law_digit cd__law_digit ct__law_digit), sl__law_digit⟩)
    (c__law_digit : PySem.W.codeIn K cd__law_digit "_law_digit" = true)
    (k__law_digit : PySem.W.keepIn K (.ref f__law_digit) = true)
    (a__law_lowest : PySem.W.nsIn K mainGlobals "_law_lowest" = some (some (.ref f__law_lowest)))
    (l__law_lowest : K.lookup f__law_lowest = some ⟨oc__law_lowest, od__law_lowest, .func (PySem.W.fnOf "_law_lowest" "_law_lowest" (defArgs s__law_lowest) (defBody s__law_lowest) (defScope s__law_lowest) .none kV__law_lowest dc__law_lowest pm__law_lowest an__law_lowest cd__law_lowest ct__law_lowest), sl__law_lowest⟩)
    (c__law_lowest : PySem.W.codeIn K cd__law_lowest "_law_lowest" = true)
    (k__law_lowest : PySem.W.keepIn K (.ref f__law_lowest) = true)
    (a__law_long : PySem.W.nsIn K mainGlobals "_law_long" = some (some (.ref f__law_long)))
    (l__law_long : K.lookup f__law_long = some ⟨oc__law_long, od__law_long, .func (PySem.W.fnOf "_law_long" "_law_long" (defArgs s__law_long) (defBody s__law_long) (defScope s__law_long) .none kV__law_long dc__law_long pm__law_long an__law_long cd__law_long ct__law_long), sl__law_long⟩)
    (c__law_long : PySem.W.codeIn K cd__law_long "_law_long" = true)
    (k__law_long : PySem.W.keepIn K (.ref f__law_long) = true)
    (a__law_fraction : PySem.W.nsIn K mainGlobals "_law_fraction" = some (some (.ref f__law_fraction)))
    (l__law_fraction : K.lookup f__law_fraction = some ⟨oc__law_fraction, od__law_fraction, .func (PySem.W.fnOf "_law_fraction" "_law_fraction" (defArgs s__law_fraction) (defBody s__law_fraction) (defScope s__law_fraction) .none kV__law_fraction dc__law_fraction pm__law_fraction an__law_fraction cd__law_fraction ct__law_fraction), sl__law_fraction⟩)
    (c__law_fraction : PySem.W.codeIn K cd__law_fraction "_law_fraction" = true)
    (k__law_fraction : PySem.W.keepIn K (.ref f__law_fraction) = true)
    (a__law_written : PySem.W.nsIn K mainGlobals "_law_written" = some (some (.ref f__law_written)))
    (l__law_written : K.lookup f__law_written = some ⟨oc__law_written, od__law_written, .func (PySem.W.fnOf "_law_written" "_law_written" (defArgs s__law_written) (defBody s__law_written) (defScope s__law_written) .none kV__law_written dc__law_written pm__law_written an__law_written cd__law_written ct__law_written), sl__law_written⟩)
    (c__law_written : PySem.W.codeIn K cd__law_written "_law_written" = true)
    (k__law_written : PySem.W.keepIn K (.ref f__law_written) = true)
    (a__law_reads : PySem.W.nsIn K mainGlobals "_law_reads" = some (some (.ref f__law_reads)))
    (l__law_reads : K.lookup f__law_reads = some ⟨oc__law_reads, od__law_reads, .func (PySem.W.fnOf "_law_reads" "_law_reads" (defArgs s__law_reads) (defBody s__law_reads) (defScope s__law_reads) .none kV__law_reads dc__law_reads pm__law_reads an__law_reads cd__law_reads ct__law_reads), sl__law_reads⟩)
    (c__law_reads : PySem.W.codeIn K cd__law_reads "_law_reads" = true)
    (k__law_reads : PySem.W.keepIn K (.ref f__law_reads) = true)
    (a__law_refuses : PySem.W.nsIn K mainGlobals "_law_refuses" = some (some (.ref f__law_refuses)))
    (l__law_refuses : K.lookup f__law_refuses = some ⟨oc__law_refuses, od__law_refuses, .func (PySem.W.fnOf "_law_refuses" "_law_refuses" (defArgs s__law_refuses) (defBody s__law_refuses) (defScope s__law_refuses) .none kV__law_refuses dc__law_refuses pm__law_refuses an__law_refuses cd__law_refuses ct__law_refuses), sl__law_refuses⟩)
    (c__law_refuses : PySem.W.codeIn K cd__law_refuses "_law_refuses" = true)
    (k__law_refuses : PySem.W.keepIn K (.ref f__law_refuses) = true)
    (a__law_spoilt : PySem.W.nsIn K mainGlobals "_law_spoilt" = some (some (.ref f__law_spoilt)))
    (l__law_spoilt : K.lookup f__law_spoilt = some ⟨oc__law_spoilt, od__law_spoilt, .func (PySem.W.fnOf "_law_spoilt" "_law_spoilt" (defArgs s__law_spoilt) (defBody s__law_spoilt) (defScope s__law_spoilt) .none kV__law_spoilt dc__law_spoilt pm__law_spoilt an__law_spoilt cd__law_spoilt ct__law_spoilt), sl__law_spoilt⟩)
    (c__law_spoilt : PySem.W.codeIn K cd__law_spoilt "_law_spoilt" = true)
    (k__law_spoilt : PySem.W.keepIn K (.ref f__law_spoilt) = true)
    (a__law_bounds : PySem.W.nsIn K mainGlobals "_law_bounds" = some (some (.ref f__law_bounds)))
    (l__law_bounds : K.lookup f__law_bounds = some ⟨oc__law_bounds, od__law_bounds, .func (PySem.W.fnOf "_law_bounds" "_law_bounds" (defArgs s__law_bounds) (defBody s__law_bounds) (defScope s__law_bounds) .none kV__law_bounds dc__law_bounds pm__law_bounds an__law_bounds cd__law_bounds ct__law_bounds), sl__law_bounds⟩)
    (c__law_bounds : PySem.W.codeIn K cd__law_bounds "_law_bounds" = true)
    (k__law_bounds : PySem.W.keepIn K (.ref f__law_bounds) = true)
    (a_law : PySem.W.nsIn K mainGlobals "law" = some (some (.ref f_law)))
    (l_law : K.lookup f_law = some ⟨oc_law, od_law, .func (PySem.W.fnOf "law" "law" (defArgs s_law) (defBody s_law) (defScope s_law) .none kV_law dc_law pm_law an_law cd_law ct_law), sl_law⟩)
    (c_law : PySem.W.codeIn K cd_law "law" = true)
    (k_law : PySem.W.keepIn K (.ref f_law) = true)
    (a_BadNumber___init__ : PySem.W.findIn K (.ref C_BadNumber) "__init__" = some (some (.ref f_BadNumber___init__)))
    (i_BadNumber___init__ : PySem.W.typeIn K (.ref f_BadNumber___init__) = some (.type "function"))
    (l_BadNumber___init__ : K.lookup f_BadNumber___init__ = some ⟨oc_BadNumber___init__, od_BadNumber___init__, .func (PySem.W.fnOf "__init__" "BadNumber.__init__" (defArgs s_BadNumber___init__) (defBody s_BadNumber___init__) (defScope s_BadNumber___init__) .none kV_BadNumber___init__ dc_BadNumber___init__ pm_BadNumber___init__ an_BadNumber___init__ cd_BadNumber___init__ ct_BadNumber___init__), sl_BadNumber___init__⟩)
    (c_BadNumber___init__ : PySem.W.codeIn K cd_BadNumber___init__ "BadNumber.__init__" = true)
    (k_BadNumber___init__ : PySem.W.keepIn K (.ref f_BadNumber___init__) = true)
    (z_abs : PySem.W.nsIn K mainGlobals "abs" = some none)
    (z_len : PySem.W.nsIn K mainGlobals "len" = some none)
    (z_int : PySem.W.nsIn K mainGlobals "int" = some none)
    (z_bool : PySem.W.nsIn K mainGlobals "bool" = some none)
    (z_str : PySem.W.nsIn K mainGlobals "str" = some none)
    (z_range : PySem.W.nsIn K mainGlobals "range" = some none)
    (z_isinstance : PySem.W.nsIn K mainGlobals "isinstance" = some none)
    (z_ValueError : PySem.W.nsIn K mainGlobals "ValueError" = some none)
    (v_gcd : PySem.W.nsIn K mainGlobals "gcd" = some (some (.builtin "math.gcd")))
    (v_MOST_DIGITS : PySem.W.nsIn K mainGlobals "MOST_DIGITS" = some (some (Value.int 2000 tk_MOST_DIGITS)))
    (v_MOST_CHARACTERS : PySem.W.nsIn K mainGlobals "MOST_CHARACTERS" = some (some (Value.int 2000 tk_MOST_CHARACTERS)))
    (v_DIGITS : PySem.W.nsIn K mainGlobals "DIGITS" = some (some (Value.str (SX.S [48, 49, 50, 51, 52, 53, 54, 55, 56, 57]) tk_DIGITS))) :
    ∃ fd : FuncData, (∀ (s : Shared) (v : Value), BindsTo s fd ⟨[v], []⟩ [("script", v)]) ∧ ∀ base : Heap, K.In base → base.Ns mainGlobals mg → FnOk l.prog w K mg base (L2N.CX l.prog w) 6 fa fd ["script"] (spD 1 (S_law K)) := by
  have e := hfa.symm.trans (PySem.W.mg_of X Gn a_law)
  cases e
  have cls_Ratio : Cls K C_Ratio := ⟨pg_Ratio, hd_Ratio, po_Ratio, sa_Ratio⟩
  have S0_Ratio : RatC K C_Ratio := ⟨⟨cls_Ratio, ha_Ratio, gs, gt, mo_Ratio⟩, no_top_Ratio, no_bottom_Ratio⟩
  have ox_BadNumber : OexC K C_BadNumber := ⟨⟨_, _, _, _, _, _, _, _, _, _, _, _, _, _, _, l_BadNumber, rf_BadNumber⟩, sa_BadNumber, ex_BadNumber, ty_BadNumber, kc_BadNumber⟩
  have F_Ratio___init__ : FunW K "__init__" "Ratio.__init__" s_Ratio___init__ [V.int 1] f_Ratio___init__ _ := ⟨⟨_, _, _, _, _, _, _, _, _, _, rfl, l_Ratio___init__, c_Ratio___init__, .inr ⟨by simp, _, _, _, _, rfl, lT_Ratio___init__, rfl, .cons ⟨_, rfl⟩ .nil⟩, .inl rfl⟩, k_Ratio___init__⟩
  obtain ⟨ds, hds, b_Ratio___init__⟩ := F_Ratio___init__.binds1 (ps := ["self", "top", "bottom"]) 3 1 (by simp) rfl fun T kV doc pm an cdv ct us its hl hl2 => match us, its, hl, hl2 with
    | [_, _, _], [e], _, _ => ⟨_, rfl, rfl⟩
  have ed : ds = [] := by
    cases hds
    rfl
  subst ed
  obtain ⟨ds1_Ratio___init__, hds1_Ratio___init__, b1_Ratio___init__⟩ := F_Ratio___init__.binds1 (ps := ["self", "top", "bottom"]) 2 0 (by simp) rfl fun T kV doc pm an cdv ct us its hl hl2 => match us, its, hl, hl2 with
    | [_, _], [e], _, _ => ⟨_, rfl, rfl⟩
  have F_Ratio_text := fun_mk (st := s_Ratio_text) l_Ratio_text c_Ratio_text k_Ratio_text
  have b_Ratio_text := F_Ratio_text.binds (ps := ["self"]) fun _ _ _ _ _ _ us hl => match us, hl with | [_], _ => rfl
  have F_whole_of := fun_mk (st := s_whole_of) l_whole_of c_whole_of k_whole_of
  have b_whole_of := F_whole_of.binds (ps := ["text", "signed"]) fun _ _ _ _ _ _ us hl => match us, hl with | [_, _], _ => rfl
  have F_Ratio_read := fun_mk (st := s_Ratio_read) l_Ratio_read c_Ratio_read k_Ratio_read
  have b_Ratio_read := F_Ratio_read.binds (ps := ["cls", "text"]) fun _ _ _ _ _ _ us hl => match us, hl with | [_, _], _ => rfl
  have F__law_start := fun_mk (st := s__law_start) l__law_start c__law_start k__law_start
  have b__law_start := F__law_start.binds (ps := ["script"]) fun _ _ _ _ _ _ us hl => match us, hl with | [_], _ => rfl
  have F__law_digit := fun_mk (st := s__law_digit) l__law_digit c__law_digit k__law_digit
  have b__law_digit := F__law_digit.binds (ps := ["pot", "many"]) fun _ _ _ _ _ _ us hl => match us, hl with | [_, _], _ => rfl
  have F__law_lowest := fun_mk (st := s__law_lowest) l__law_lowest c__law_lowest k__law_lowest
  have b__law_lowest := F__law_lowest.binds (ps := ["top", "bottom"]) fun _ _ _ _ _ _ us hl => match us, hl with | [_, _], _ => rfl
  have F__law_long := fun_mk (st := s__law_long) l__law_long c__law_long k__law_long
  have b__law_long := F__law_long.binds (ps := ["pot"]) fun _ _ _ _ _ _ us hl => match us, hl with | [_], _ => rfl
  have F__law_fraction := fun_mk (st := s__law_fraction) l__law_fraction c__law_fraction k__law_fraction
  have b__law_fraction := F__law_fraction.binds (ps := ["pot"]) fun _ _ _ _ _ _ us hl => match us, hl with | [_], _ => rfl
  have F__law_written := fun_mk (st := s__law_written) l__law_written c__law_written k__law_written
  have b__law_written := F__law_written.binds (ps := ["p"]) fun _ _ _ _ _ _ us hl => match us, hl with | [_], _ => rfl
  have F__law_reads := fun_mk (st := s__law_reads) l__law_reads c__law_reads k__law_reads
  have b__law_reads := F__law_reads.binds (ps := ["text", "p"]) fun _ _ _ _ _ _ us hl => match us, hl with | [_, _], _ => rfl
  have F__law_refuses := fun_mk (st := s__law_refuses) l__law_refuses c__law_refuses k__law_refuses
  have b__law_refuses := F__law_refuses.binds (ps := ["text"]) fun _ _ _ _ _ _ us hl => match us, hl with | [_], _ => rfl
  have F__law_spoilt := fun_mk (st := s__law_spoilt) l__law_spoilt c__law_spoilt k__law_spoilt
  have b__law_spoilt := F__law_spoilt.binds (ps := ["pot", "p", "text", "times"]) fun _ _ _ _ _ _ us hl => match us, hl with | [_, _, _, _], _ => rfl
  have F__law_bounds := fun_mk (st := s__law_bounds) l__law_bounds c__law_bounds k__law_bounds
  have b__law_bounds := F__law_bounds.binds (ps := ["sign"]) fun _ _ _ _ _ _ us hl => match us, hl with | [_], _ => rfl
  have F_law := fun_mk (st := s_law) l_law c_law k_law
  have b_law := F_law.binds (ps := ["script"]) fun _ _ _ _ _ _ us hl => match us, hl with | [_], _ => rfl
  have F_BadNumber___init__ := fun_mk (st := s_BadNumber___init__) l_BadNumber___init__ c_BadNumber___init__ k_BadNumber___init__
  have b_BadNumber___init__ := F_BadNumber___init__.binds (ps := ["self", "given"]) fun _ _ _ _ _ _ us hl => match us, hl with | [_, _], _ => rfl
  refine ⟨PySem.W.fnOf "law" "law" (defArgs s_law) (defBody s_law) (defScope s_law) .none kV_law dc_law pm_law an_law cd_law ct_law, fun s v => .of_eq rfl, fun base _ _ => ?_⟩
  have x1_BadNumber : Exc ⟨l.prog, w, K, mg, base⟩ "BadNumber" C_BadNumber ["given"] := ⟨⟨f_BadNumber___init__, _, _, okx_BadNumber ox_BadNumber no_given_BadNumber F_BadNumber___init__, b_BadNumber___init__, a_BadNumber___init__, i_BadNumber___init__⟩, ox_BadNumber, PySem.W.mg_of X Gn a_BadNumber⟩
  have T : Txt ⟨l.prog, w, K, mg, base⟩ C_Ratio C_ZeroBottom C_BadNumber C_CarryError := { n_abs := PySem.W.mg_none_of X Gn z_abs, n_len := PySem.W.mg_none_of X Gn z_len, n_int := PySem.W.mg_none_of X Gn z_int, n_bool := PySem.W.mg_none_of X Gn z_bool, n_str := PySem.W.mg_none_of X Gn z_str, n_range := PySem.W.mg_none_of X Gn z_range, n_isinstance := PySem.W.mg_none_of X Gn z_isinstance, n_ValueError := PySem.W.mg_none_of X Gn z_ValueError, mg_gcd := PySem.W.mg_of X Gn v_gcd, gc_MOST_DIGITS := ⟨_, PySem.W.mg_of X Gn v_MOST_DIGITS, ⟨_, rfl⟩⟩, gc_MOST_CHARACTERS := ⟨_, PySem.W.mg_of X Gn v_MOST_CHARACTERS, ⟨_, rfl⟩⟩, gc_DIGITS := ⟨_, PySem.W.mg_of X Gn v_DIGITS, ⟨_, rfl⟩⟩, nd := ⟨nd2⟩, mg_Ratio := PySem.W.mg_of X Gn a_Ratio, mg_ZeroBottom := PySem.W.mg_of X Gn a_ZeroBottom, mg_BadNumber := PySem.W.mg_of X Gn a_BadNumber, mg_CarryError := PySem.W.mg_of X Gn a_CarryError, R_Ratio := S0_Ratio, x0_ZeroBottom := ⟨xi_ZeroBottom, kc_ZeroBottom, ex_ZeroBottom, ty_ZeroBottom, PySem.W.mg_of X Gn a_ZeroBottom⟩, XC_ZeroBottom := ⟨⟨ga_ZeroBottom, gg_ZeroBottom, ex_ZeroBottom, hd_ZeroBottom⟩, is_ZeroBottom, ha_ZeroBottom, gs, gt, mo_ZeroBottom⟩, XC_BadNumber := ⟨⟨ga_BadNumber, gg_BadNumber, ex_BadNumber, hd_BadNumber⟩, is_BadNumber, ha_BadNumber, gs, gt, mo_BadNumber⟩, x_BadNumber := x1_BadNumber, no_BadNumber_given := no_given_BadNumber, is_Ratio_Ratio := kit_self, is_BadNumber_BadNumber := kit_self, is_BadNumber_ZeroBottom := kit_no su_BadNumber is_ZeroBottom ty_ZeroBottom su_BadNumber_ZeroBottom, isT_BadNumber_ValueError := kit_val sT_BadNumber_ValueError, ex_BadNumber_CarryError := PySem.W.exm_ref ex_CarryError hd_CarryError ty_CarryError su_BadNumber_CarryError }
  have k1_Ratio : Mak ⟨l.prog, w, K, mg, base⟩ _ "Ratio" C_Ratio _ _ [.int 1] := ⟨⟨f_Ratio___init__, ok_ginit T F_Ratio___init__ b1_Ratio___init__ hds1_Ratio___init__ rfl, ⟨mk_Ratio, a_Ratio___init__, i_Ratio___init__, kc_Ratio⟩⟩, T.mg_Ratio⟩
  have k_Ratio : Mak ⟨l.prog, w, K, mg, base⟩ _ "Ratio" C_Ratio _ _ [] := ⟨⟨f_Ratio___init__, ok_ginit T F_Ratio___init__ b_Ratio___init__ .nil rfl, ⟨mk_Ratio, a_Ratio___init__, i_Ratio___init__, kc_Ratio⟩⟩, T.mg_Ratio⟩
  have m_Ratio_text : Met ⟨l.prog, w, K, mg, base⟩ _ C_Ratio ["top", "bottom"] "text" _ _ [] := ⟨⟨f_Ratio_text, ok_gtext T F_Ratio_text b_Ratio_text, ⟨a_Ratio_text, i_Ratio_text, k_Ratio_text⟩⟩, cls_Ratio, by decide +kernel⟩
  have c_whole_of : Cal ⟨l.prog, w, K, mg, base⟩ _ "whole_of" _ _ [] := ⟨⟨_, ok_whole T F_whole_of b_whole_of, PySem.W.mg_of X Gn a_whole_of, k_whole_of⟩⟩
  have t_Ratio_read : Cme ⟨l.prog, w, K, mg, base⟩ _ C_Ratio "read" _ _ := ⟨⟨f_Ratio_read, p_Ratio_read, ok_read T k1_Ratio k_Ratio c_whole_of F_Ratio_read b_Ratio_read, ⟨rd_Ratio_read, ga_Ratio_read⟩, ⟨a_Ratio_read, ⟨rr_Ratio_read, r_Ratio_read⟩, fi_Ratio_read⟩⟩⟩
  have c__law_start : Cal ⟨l.prog, w, K, mg, base⟩ _ "_law_start" _ _ [] := ⟨⟨_, ok_pot T F__law_start b__law_start, PySem.W.mg_of X Gn a__law_start, k__law_start⟩⟩
  have c__law_digit : Cal ⟨l.prog, w, K, mg, base⟩ _ "_law_digit" _ _ [] := ⟨⟨_, ok_digit T F__law_digit b__law_digit, PySem.W.mg_of X Gn a__law_digit, k__law_digit⟩⟩
  have c__law_lowest : Cal ⟨l.prog, w, K, mg, base⟩ _ "_law_lowest" _ _ [] := ⟨⟨_, ok_lowest T F__law_lowest b__law_lowest, PySem.W.mg_of X Gn a__law_lowest, k__law_lowest⟩⟩
  have c__law_long : Cal ⟨l.prog, w, K, mg, base⟩ _ "_law_long" _ _ [] := ⟨⟨_, ok_long T c__law_digit F__law_long b__law_long, PySem.W.mg_of X Gn a__law_long, k__law_long⟩⟩
  have c__law_fraction : Cal ⟨l.prog, w, K, mg, base⟩ _ "_law_fraction" _ _ [] := ⟨⟨_, ok_fraction T c__law_digit c__law_long c__law_lowest F__law_fraction b__law_fraction, PySem.W.mg_of X Gn a__law_fraction, k__law_fraction⟩⟩
  have c__law_written : Cal ⟨l.prog, w, K, mg, base⟩ _ "_law_written" _ _ [] := ⟨⟨_, ok_written T F__law_written b__law_written, PySem.W.mg_of X Gn a__law_written, k__law_written⟩⟩
  have c__law_reads : Cal ⟨l.prog, w, K, mg, base⟩ _ "_law_reads" _ _ [] := ⟨⟨_, ok_reads T m_Ratio_text t_Ratio_read F__law_reads b__law_reads, PySem.W.mg_of X Gn a__law_reads, k__law_reads⟩⟩
  have c__law_refuses : Cal ⟨l.prog, w, K, mg, base⟩ _ "_law_refuses" _ _ [] := ⟨⟨_, ok_refuses T t_Ratio_read F__law_refuses b__law_refuses, PySem.W.mg_of X Gn a__law_refuses, k__law_refuses⟩⟩
  have c__law_spoilt : Cal ⟨l.prog, w, K, mg, base⟩ _ "_law_spoilt" _ _ [] := ⟨⟨_, ok_spoilt T c__law_digit F__law_spoilt b__law_spoilt, PySem.W.mg_of X Gn a__law_spoilt, k__law_spoilt⟩⟩
  have c__law_bounds : Cal ⟨l.prog, w, K, mg, base⟩ _ "_law_bounds" _ _ [] := ⟨⟨_, ok_bounds T c__law_reads c__law_refuses F__law_bounds b__law_bounds, PySem.W.mg_of X Gn a__law_bounds, k__law_bounds⟩⟩
  exact ok_law T k_Ratio m_Ratio_text c__law_start c__law_digit c__law_fraction c__law_written c__law_reads c__law_refuses c__law_spoilt c__law_bounds F_law
end K03
set_option Elab.async false
set_option linter.all false
/-
{C_Ratio : Addr} {C_ZeroBottom : Addr} {C_BadNumber N_e_BadNumber : Addr} {nm_BadNumber q_BadNumber : Str} {bs_BadNumber bm_BadNumber sn_BadNumber : _} {sub_BadNumber ab_BadNumber col_BadNumber dd_BadNumber m0_BadNumber m1_BadNumber m2_BadNumber m3_BadNumber m5_BadNumber : _} {C_CarryError : Addr} {f_Ratio___init__ : Addr} {od_Ratio___init__ an_Ratio___init__ : Option Addr} {sl_Ratio___init__ : Array (Option Value)} {oc_Ratio___init__ kV_Ratio___init__ dc_Ratio___init__ pm_Ratio___init__ cd_Ratio___init__ ct_Ratio___init__ : Value} {T_Ratio___init__ : Addr} {tk_Ratio___init__ : Tok} {oT_Ratio___init__ : Option Addr} {nT_Ratio___init__ : Nat} {sT_Ratio___init__ : Array (Option Value)} {cT_Ratio___init__ : Value} {f_Ratio_text : Addr} {od_Ratio_text an_Ratio_text : Option Addr} {sl_Ratio_text : Array (Option Value)} {oc_Ratio_text kV_Ratio_text dc_Ratio_text pm_Ratio_text cd_Ratio_text ct_Ratio_text : Value} {f_whole_of : Addr} {od_whole_of an_whole_of : Option Addr} {sl_whole_of : Array (Option Value)} {oc_whole_of kV_whole_of dc_whole_of pm_whole_of cd_whole_of ct_whole_of : Value} {f_Ratio_read : Addr} {od_Ratio_read an_Ratio_read : Option Addr} {sl_Ratio_read : Array (Option Value)} {oc_Ratio_read kV_Ratio_read dc_Ratio_read pm_Ratio_read cd_Ratio_read ct_Ratio_read : Value} {p_Ratio_read : Addr} {rr_Ratio_read : List Value} {f__law_start : Addr} {od__law_start an__law_start : Option Addr} {sl__law_start : Array (Option Value)} {oc__law_start kV__law_start dc__law_start pm__law_start cd__law_start ct__law_start : Value} {f__law_digit : Addr} {od__law_digit an__law_digit : Option Addr} {sl__law_digit : Array (Option Value)} {oc__law_digit kV__law_digit dc__law_digit pm__law_digit cd__law_digit ct__law_digit : Value} {f__law_lowest : Addr} {od__law_lowest an__law_lowest : Option Addr} {sl__law_lowest : Array (Option Value)} {oc__law_lowest kV__law_lowest dc__law_lowest pm__law_lowest cd__law_lowest ct__law_lowest : Value} {f__law_long : Addr} {od__law_long an__law_long : Option Addr} {sl__law_long : Array (Option Value)} {oc__law_long kV__law_long dc__law_long pm__law_long cd__law_long ct__law_long : Value} {f__law_fraction : Addr} {od__law_fraction an__law_fraction : Option Addr} {sl__law_fraction : Array (Option Value)} {oc__law_fraction kV__law_fraction dc__law_fraction pm__law_fraction cd__law_fraction ct__law_fraction : Value} {f__law_written : Addr} {od__law_written an__law_written : Option Addr} {sl__law_written : Array (Option Value)} {oc__law_written kV__law_written dc__law_written pm__law_written cd__law_written ct__law_written : Value} {f__law_reads : Addr} {od__law_reads an__law_reads : Option Addr} {sl__law_reads : Array (Option Value)} {oc__law_reads kV__law_reads dc__law_reads pm__law_reads cd__law_reads ct__law_reads : Value} {f__law_refuses : Addr} {od__law_refuses an__law_refuses : Option Addr} {sl__law_refuses : Array (Option Value)} {oc__law_refuses kV__law_refuses dc__law_refuses pm__law_refuses cd__law_refuses ct__law_refuses : Value} {f__law_spoilt : Addr} {od__law_spoilt an__law_spoilt : Option Addr} {sl__law_spoilt : Array (Option Value)} {oc__law_spoilt kV__law_spoilt dc__law_spoilt pm__law_spoilt cd__law_spoilt ct__law_spoilt : Value} {f__law_bounds : Addr} {od__law_bounds an__law_bounds : Option Addr} {sl__law_bounds : Array (Option Value)} {oc__law_bounds kV__law_bounds dc__law_bounds pm__law_bounds cd__law_bounds ct__law_bounds : Value} {f_law : Addr} {od_law an_law : Option Addr} {sl_law : Array (Option Value)} {oc_law kV_law dc_law pm_law cd_law ct_law : Value} {f_BadNumber___init__ : Addr} {od_BadNumber___init__ an_BadNumber___init__ : Option Addr} {sl_BadNumber___init__ : Array (Option Value)} {oc_BadNumber___init__ kV_BadNumber___init__ dc_BadNumber___init__ pm_BadNumber___init__ cd_BadNumber___init__ ct_BadNumber___init__ : Value} {tk_MOST_DIGITS : Tok} {tk_MOST_CHARACTERS : Tok} {tk_DIGITS : Tok}
    (a_Ratio : PySem.W.nsIn K mainGlobals "Ratio" = some (some (.ref C_Ratio)))
    (pg_Ratio : PySem.W.plainGet K C_Ratio Str.empty = true)
    (hd_Ratio : PySem.W.hasDictIn K C_Ratio = true)
    (po_Ratio : PySem.W.plainOver K C_Ratio = true)
    (sa_Ratio : PySem.W.findIn K (.ref C_Ratio) "__setattr__" = some (some (.builtin "object.__setattr__")))
    (mk_Ratio : PySem.W.makesIn K C_Ratio = true)
    (sf_Ratio : PySem.W.selfFirst K C_Ratio = true)
    (kc_Ratio : PySem.W.keepIn K (.ref C_Ratio) = true)
    (ha_Ratio : PySem.W.findIn K (.ref C_Ratio) "__class__" = some (some (.builtin "object.__class__")))
    (mo_Ratio : PySem.W.mroIn K C_Ratio (.type "object") = some true)
    (is_Ratio : PySem.W.isClsIn K C_Ratio = true)
    (su_Ratio : PySem.W.subIn K (.ref C_Ratio) (.ref C_Ratio) = some true)
    (ty_Ratio : PySem.W.typeIn K (.ref C_Ratio) = some (.type "type"))
    (no_top_Ratio : PySem.W.findIn K (.ref C_Ratio) "top" = some none)
    (no_bottom_Ratio : PySem.W.findIn K (.ref C_Ratio) "bottom" = some none)
    (a_ZeroBottom : PySem.W.nsIn K mainGlobals "ZeroBottom" = some (some (.ref C_ZeroBottom)))
    (xi_ZeroBottom : PySem.W.excIn K C_ZeroBottom [.type "ValueError", .type "Exception", .type "BaseException", .type "object"] "ValueError.__new__" = true)
    (ex_ZeroBottom : PySem.W.subIn K (.ref C_ZeroBottom) (.type "BaseException") = some true)
    (ty_ZeroBottom : PySem.W.typeIn K (.ref C_ZeroBottom) = some (.type "type"))
    (kc_ZeroBottom : PySem.W.keepIn K (.ref C_ZeroBottom) = true)
    (ga_ZeroBottom : PySem.W.findIn K (.ref C_ZeroBottom) "__getattribute__" = some (some (.builtin "BaseException.__getattribute__")))
    (gg_ZeroBottom : PySem.W.findIn K (.ref C_ZeroBottom) "__getattr__" = some none)
    (hd_ZeroBottom : PySem.W.hasDictIn K C_ZeroBottom = true)
    (ha_ZeroBottom : PySem.W.findIn K (.ref C_ZeroBottom) "__class__" = some (some (.builtin "object.__class__")))
    (mo_ZeroBottom : PySem.W.mroIn K C_ZeroBottom (.type "object") = some true)
    (is_ZeroBottom : PySem.W.isClsIn K C_ZeroBottom = true)
    (su_ZeroBottom : PySem.W.subIn K (.ref C_ZeroBottom) (.ref C_ZeroBottom) = some true)
    (a_BadNumber : PySem.W.nsIn K mainGlobals "BadNumber" = some (some (.ref C_BadNumber)))
    (l_BadNumber : K.lookup C_BadNumber = some (excClassObj nm_BadNumber q_BadNumber C_BadNumber N_e_BadNumber bs_BadNumber bm_BadNumber true sn_BadNumber sub_BadNumber ab_BadNumber col_BadNumber dd_BadNumber m0_BadNumber m1_BadNumber m2_BadNumber m3_BadNumber m5_BadNumber "ValueError.__new__"))
    (rf_BadNumber : PySem.HandSPX.refsVE bm_BadNumber = true)
    (sa_BadNumber : PySem.W.findIn K (.ref C_BadNumber) "__setattr__" = some (some (.builtin "object.__setattr__")))
    (ex_BadNumber : PySem.W.subIn K (.ref C_BadNumber) (.type "BaseException") = some true)
    (ty_BadNumber : PySem.W.typeIn K (.ref C_BadNumber) = some (.type "type"))
    (kc_BadNumber : PySem.W.keepIn K (.ref C_BadNumber) = true)
    (ga_BadNumber : PySem.W.findIn K (.ref C_BadNumber) "__getattribute__" = some (some (.builtin "BaseException.__getattribute__")))
    (gg_BadNumber : PySem.W.findIn K (.ref C_BadNumber) "__getattr__" = some none)
    (hd_BadNumber : PySem.W.hasDictIn K C_BadNumber = true)
    (ha_BadNumber : PySem.W.findIn K (.ref C_BadNumber) "__class__" = some (some (.builtin "object.__class__")))
    (mo_BadNumber : PySem.W.mroIn K C_BadNumber (.type "object") = some true)
    (is_BadNumber : PySem.W.isClsIn K C_BadNumber = true)
    (su_BadNumber : PySem.W.subIn K (.ref C_BadNumber) (.ref C_BadNumber) = some true)
    (no_given_BadNumber : PySem.W.findIn K (.ref C_BadNumber) "given" = some none)
    (a_CarryError : PySem.W.nsIn K mainGlobals "CarryError" = some (some (.ref C_CarryError)))
    (ex_CarryError : PySem.W.subIn K (.ref C_CarryError) (.type "BaseException") = some true)
    (ty_CarryError : PySem.W.typeIn K (.ref C_CarryError) = some (.type "type"))
    (hd_CarryError : PySem.W.hasDictIn K C_CarryError = true)
    (is_CarryError : PySem.W.isClsIn K C_CarryError = true)
    (su_BadNumber_ZeroBottom : PySem.W.subIn K (.ref C_BadNumber) (.ref C_ZeroBottom) = some false)
    (su_BadNumber_CarryError : PySem.W.subIn K (.ref C_BadNumber) (.ref C_CarryError) = some true)
    (sT_BadNumber_ValueError : PySem.W.subIn K (.ref C_BadNumber) (.type "ValueError") = some true)
    (gs : PySem.W.specialIn K (.builtin "object.__class__") "__get__" = some (some (.builtin "getset_descriptor.__get__")))
    (gt : PySem.W.takesIn K (.builtin "object.__class__") = some true)
    (nd2 : PySem.W.nsIn K cStatics "sys.int_max_str_digits" = some none)
    (a_Ratio___init__ : PySem.W.findIn K (.ref C_Ratio) "__init__" = some (some (.ref f_Ratio___init__)))
    (i_Ratio___init__ : PySem.W.isFn K (.ref f_Ratio___init__) = true)
    (l_Ratio___init__ : K.lookup f_Ratio___init__ = some ⟨oc_Ratio___init__, od_Ratio___init__, .func (PySem.W.fnOf "__init__" "Ratio.__init__" (defArgs s_Ratio___init__) (defBody s_Ratio___init__) (defScope s_Ratio___init__) (.ref T_Ratio___init__) kV_Ratio___init__ dc_Ratio___init__ pm_Ratio___init__ an_Ratio___init__ cd_Ratio___init__ ct_Ratio___init__), sl_Ratio___init__⟩)
    (lT_Ratio___init__ : K.lookup T_Ratio___init__ = some ⟨cT_Ratio___init__, oT_Ratio___init__, .seq [Value.int 1 tk_Ratio___init__].toArray nT_Ratio___init__, sT_Ratio___init__⟩)
    (c_Ratio___init__ : PySem.W.codeIn K cd_Ratio___init__ "Ratio.__init__" = true)
    (k_Ratio___init__ : PySem.W.keepIn K (.ref f_Ratio___init__) = true)
    (a_Ratio_text : PySem.W.findIn K (.ref C_Ratio) "text" = some (some (.ref f_Ratio_text)))
    (i_Ratio_text : PySem.W.isFn K (.ref f_Ratio_text) = true)
    (l_Ratio_text : K.lookup f_Ratio_text = some ⟨oc_Ratio_text, od_Ratio_text, .func (PySem.W.fnOf "text" "Ratio.text" (defArgs s_Ratio_text) (defBody s_Ratio_text) (defScope s_Ratio_text) .none kV_Ratio_text dc_Ratio_text pm_Ratio_text an_Ratio_text cd_Ratio_text ct_Ratio_text), sl_Ratio_text⟩)
    (c_Ratio_text : PySem.W.codeIn K cd_Ratio_text "Ratio.text" = true)
    (k_Ratio_text : PySem.W.keepIn K (.ref f_Ratio_text) = true)
    (a_whole_of : PySem.W.nsIn K mainGlobals "whole_of" = some (some (.ref f_whole_of)))
    (l_whole_of : K.lookup f_whole_of = some ⟨oc_whole_of, od_whole_of, .func (PySem.W.fnOf "whole_of" "whole_of" (defArgs s_whole_of) (defBody s_whole_of) (defScope s_whole_of) .none kV_whole_of dc_whole_of pm_whole_of an_whole_of cd_whole_of ct_whole_of), sl_whole_of⟩)
    (c_whole_of : PySem.W.codeIn K cd_whole_of "whole_of" = true)
    (k_whole_of : PySem.W.keepIn K (.ref f_whole_of) = true)
    (a_Ratio_read : PySem.W.findCls K (.ref C_Ratio) (.type "type") "read" = some (.get (.builtin "classmethod.__get__") (.ref p_Ratio_read) .none (.ref C_Ratio)))
    (r_Ratio_read : PySem.W.recIn K p_Ratio_read "classmethod" = some (.ref f_Ratio_read :: rr_Ratio_read))
    (rd_Ratio_read : PySem.W.readsIn K C_Ratio (.type "type") = true)
    (ga_Ratio_read : PySem.W.specialIn K (.ref C_Ratio) "__getattribute__" = some (some (.builtin "type.__getattribute__")))
    (fi_Ratio_read : PySem.W.fnIn K f_Ratio_read = true)
    (l_Ratio_read : K.lookup f_Ratio_read = some ⟨oc_Ratio_read, od_Ratio_read, .func (PySem.W.fnOf "read" "Ratio.read" (defArgs s_Ratio_read) (defBody s_Ratio_read) (defScope s_Ratio_read) .none kV_Ratio_read dc_Ratio_read pm_Ratio_read an_Ratio_read cd_Ratio_read ct_Ratio_read), sl_Ratio_read⟩)
    (c_Ratio_read : PySem.W.codeIn K cd_Ratio_read "Ratio.read" = true)
    (k_Ratio_read : PySem.W.keepIn K (.ref f_Ratio_read) = true)
    (a__law_start : PySem.W.nsIn K mainGlobals "_law_start" = some (some (.ref f__law_start)))
    (l__law_start : K.lookup f__law_start = some ⟨oc__law_start, od__law_start, .func (PySem.W.fnOf "_law_start" "_law_start" (defArgs s__law_start) (defBody s__law_start) (defScope s__law_start) .none kV__law_start dc__law_start pm__law_start an__law_start cd__law_start ct__law_start), sl__law_start⟩)
    (c__law_start : PySem.W.codeIn K cd__law_start "_law_start" = true)
    (k__law_start : PySem.W.keepIn K (.ref f__law_start) = true)
    (a__law_digit : PySem.W.nsIn K mainGlobals "_law_digit" = some (some (.ref f__law_digit)))
    (l__law_digit : K.lookup f__law_digit = some ⟨oc__law_digit, od__law_digit, .func (PySem.W.fnOf "_law_digit" "_law_digit" (defArgs s__law_digit) (defBody s__law_digit) (defScope s__law_digit) .none kV__law_digit dc__law_digit pm__law_digit an__law_digit cd__law_digit ct__law_digit), sl__law_digit⟩)
    (c__law_digit : PySem.W.codeIn K cd__law_digit "_law_digit" = true)
    (k__law_digit : PySem.W.keepIn K (.ref f__law_digit) = true)
    (a__law_lowest : PySem.W.nsIn K mainGlobals "_law_lowest" = some (some (.ref f__law_lowest)))
    (l__law_lowest : K.lookup f__law_lowest = some ⟨oc__law_lowest, od__law_lowest, .func (PySem.W.fnOf "_law_lowest" "_law_lowest" (defArgs s__law_lowest) (defBody s__law_lowest) (defScope s__law_lowest) .none kV__law_lowest dc__law_lowest pm__law_lowest an__law_lowest cd__law_lowest ct__law_lowest), sl__law_lowest⟩)
    (c__law_lowest : PySem.W.codeIn K cd__law_lowest "_law_lowest" = true)
    (k__law_lowest : PySem.W.keepIn K (.ref f__law_lowest) = true)
    (a__law_long : PySem.W.nsIn K mainGlobals "_law_long" = some (some (.ref f__law_long)))
    (l__law_long : K.lookup f__law_long = some ⟨oc__law_long, od__law_long, .func (PySem.W.fnOf "_law_long" "_law_long" (defArgs s__law_long) (defBody s__law_long) (defScope s__law_long) .none kV__law_long dc__law_long pm__law_long an__law_long cd__law_long ct__law_long), sl__law_long⟩)
    (c__law_long : PySem.W.codeIn K cd__law_long "_law_long" = true)
    (k__law_long : PySem.W.keepIn K (.ref f__law_long) = true)
    (a__law_fraction : PySem.W.nsIn K mainGlobals "_law_fraction" = some (some (.ref f__law_fraction)))
    (l__law_fraction : K.lookup f__law_fraction = some ⟨oc__law_fraction, od__law_fraction, .func (PySem.W.fnOf "_law_fraction" "_law_fraction" (defArgs s__law_fraction) (defBody s__law_fraction) (defScope s__law_fraction) .none kV__law_fraction dc__law_fraction pm__law_fraction an__law_fraction cd__law_fraction ct__law_fraction), sl__law_fraction⟩)
    (c__law_fraction : PySem.W.codeIn K cd__law_fraction "_law_fraction" = true)
    (k__law_fraction : PySem.W.keepIn K (.ref f__law_fraction) = true)
    (a__law_written : PySem.W.nsIn K mainGlobals "_law_written" = some (some (.ref f__law_written)))
    (l__law_written : K.lookup f__law_written = some ⟨oc__law_written, od__law_written, .func (PySem.W.fnOf "_law_written" "_law_written" (defArgs s__law_written) (defBody s__law_written) (defScope s__law_written) .none kV__law_written dc__law_written pm__law_written an__law_written cd__law_written ct__law_written), sl__law_written⟩)
    (c__law_written : PySem.W.codeIn K cd__law_written "_law_written" = true)
    (k__law_written : PySem.W.keepIn K (.ref f__law_written) = true)
    (a__law_reads : PySem.W.nsIn K mainGlobals "_law_reads" = some (some (.ref f__law_reads)))
    (l__law_reads : K.lookup f__law_reads = some ⟨oc__law_reads, od__law_reads, .func (PySem.W.fnOf "_law_reads" "_law_reads" (defArgs s__law_reads) (defBody s__law_reads) (defScope s__law_reads) .none kV__law_reads dc__law_reads pm__law_reads an__law_reads cd__law_reads ct__law_reads), sl__law_reads⟩)
    (c__law_reads : PySem.W.codeIn K cd__law_reads "_law_reads" = true)
    (k__law_reads : PySem.W.keepIn K (.ref f__law_reads) = true)
    (a__law_refuses : PySem.W.nsIn K mainGlobals "_law_refuses" = some (some (.ref f__law_refuses)))
    (l__law_refuses : K.lookup f__law_refuses = some ⟨oc__law_refuses, od__law_refuses, .func (PySem.W.fnOf "_law_refuses" "_law_refuses" (defArgs s__law_refuses) (defBody s__law_refuses) (defScope s__law_refuses) .none kV__law_refuses dc__law_refuses pm__law_refuses an__law_refuses cd__law_refuses ct__law_refuses), sl__law_refuses⟩)
    (c__law_refuses : PySem.W.codeIn K cd__law_refuses "_law_refuses" = true)
    (k__law_refuses : PySem.W.keepIn K (.ref f__law_refuses) = true)
    (a__law_spoilt : PySem.W.nsIn K mainGlobals "_law_spoilt" = some (some (.ref f__law_spoilt)))
    (l__law_spoilt : K.lookup f__law_spoilt = some ⟨oc__law_spoilt, od__law_spoilt, .func (PySem.W.fnOf "_law_spoilt" "_law_spoilt" (defArgs s__law_spoilt) (defBody s__law_spoilt) (defScope s__law_spoilt) .none kV__law_spoilt dc__law_spoilt pm__law_spoilt an__law_spoilt cd__law_spoilt ct__law_spoilt), sl__law_spoilt⟩)
    (c__law_spoilt : PySem.W.codeIn K cd__law_spoilt "_law_spoilt" = true)
    (k__law_spoilt : PySem.W.keepIn K (.ref f__law_spoilt) = true)
    (a__law_bounds : PySem.W.nsIn K mainGlobals "_law_bounds" = some (some (.ref f__law_bounds)))
    (l__law_bounds : K.lookup f__law_bounds = some ⟨oc__law_bounds, od__law_bounds, .func (PySem.W.fnOf "_law_bounds" "_law_bounds" (defArgs s__law_bounds) (defBody s__law_bounds) (defScope s__law_bounds) .none kV__law_bounds dc__law_bounds pm__law_bounds an__law_bounds cd__law_bounds ct__law_bounds), sl__law_bounds⟩)
    (c__law_bounds : PySem.W.codeIn K cd__law_bounds "_law_bounds" = true)
    (k__law_bounds : PySem.W.keepIn K (.ref f__law_bounds) = true)
    (a_law : PySem.W.nsIn K mainGlobals "law" = some (some (.ref f_law)))
    (l_law : K.lookup f_law = some ⟨oc_law, od_law, .func (PySem.W.fnOf "law" "law" (defArgs s_law) (defBody s_law) (defScope s_law) .none kV_law dc_law pm_law an_law cd_law ct_law), sl_law⟩)
    (c_law : PySem.W.codeIn K cd_law "law" = true)
    (k_law : PySem.W.keepIn K (.ref f_law) = true)
    (a_BadNumber___init__ : PySem.W.findIn K (.ref C_BadNumber) "__init__" = some (some (.ref f_BadNumber___init__)))
    (i_BadNumber___init__ : PySem.W.typeIn K (.ref f_BadNumber___init__) = some (.type "function"))
    (l_BadNumber___init__ : K.lookup f_BadNumber___init__ = some ⟨oc_BadNumber___init__, od_BadNumber___init__, .func (PySem.W.fnOf "__init__" "BadNumber.__init__" (defArgs s_BadNumber___init__) (defBody s_BadNumber___init__) (defScope s_BadNumber___init__) .none kV_BadNumber___init__ dc_BadNumber___init__ pm_BadNumber___init__ an_BadNumber___init__ cd_BadNumber___init__ ct_BadNumber___init__), sl_BadNumber___init__⟩)
    (c_BadNumber___init__ : PySem.W.codeIn K cd_BadNumber___init__ "BadNumber.__init__" = true)
    (k_BadNumber___init__ : PySem.W.keepIn K (.ref f_BadNumber___init__) = true)
    (z_abs : PySem.W.nsIn K mainGlobals "abs" = some none)
    (z_len : PySem.W.nsIn K mainGlobals "len" = some none)
    (z_int : PySem.W.nsIn K mainGlobals "int" = some none)
    (z_bool : PySem.W.nsIn K mainGlobals "bool" = some none)
    (z_str : PySem.W.nsIn K mainGlobals "str" = some none)
    (z_range : PySem.W.nsIn K mainGlobals "range" = some none)
    (z_isinstance : PySem.W.nsIn K mainGlobals "isinstance" = some none)
    (z_ValueError : PySem.W.nsIn K mainGlobals "ValueError" = some none)
    (v_gcd : PySem.W.nsIn K mainGlobals "gcd" = some (some (.builtin "math.gcd")))
    (v_MOST_DIGITS : PySem.W.nsIn K mainGlobals "MOST_DIGITS" = some (some (Value.int 2000 tk_MOST_DIGITS)))
    (v_MOST_CHARACTERS : PySem.W.nsIn K mainGlobals "MOST_CHARACTERS" = some (some (Value.int 2000 tk_MOST_CHARACTERS)))
    (v_DIGITS : PySem.W.nsIn K mainGlobals "DIGITS" = some (some (Value.str (SX.S [48, 49, 50, 51, 52, 53, 54, 55, 56, 57]) tk_DIGITS)))
-/
open PySem PySem.W PyProof.Rows
set_option maxRecDepth 100000 in
set_option maxHeartbeats 0 in
theorem PySem.Challenge.cw_fewcarry_k03_fraction_text_holds : PySem.Challenge.rw_fewcarry_k03_fraction_text.Holds := by
  w_on; o_law; k_head; (case hw => w_witness2)
  k_fill
  refine DL.walkB (l := PySem.Challenge.rw_fewcarry_k03_fraction_text) (k := 6) (x := "script") rfl rfl ⟨rfl, by decide, by decide⟩ (fun w h Y => PySem.W.kIn_of Y) ?F
  case F =>
    intro w mg fa h KX G hmg
    refine' K03.all_mk KX G hmg ?a_Ratio ?pg_Ratio ?hd_Ratio ?po_Ratio ?sa_Ratio ?mk_Ratio ?sf_Ratio ?kc_Ratio ?ha_Ratio ?mo_Ratio ?is_Ratio ?su_Ratio ?ty_Ratio ?no_top_Ratio ?no_bottom_Ratio ?a_ZeroBottom ?xi_ZeroBottom ?ex_ZeroBottom ?ty_ZeroBottom ?kc_ZeroBottom ?ga_ZeroBottom ?gg_ZeroBottom ?hd_ZeroBottom ?ha_ZeroBottom ?mo_ZeroBottom ?is_ZeroBottom ?su_ZeroBottom ?a_BadNumber ?l_BadNumber ?rf_BadNumber ?sa_BadNumber ?ex_BadNumber ?ty_BadNumber ?kc_BadNumber ?ga_BadNumber ?gg_BadNumber ?hd_BadNumber ?ha_BadNumber ?mo_BadNumber ?is_BadNumber ?su_BadNumber ?no_given_BadNumber ?a_CarryError ?ex_CarryError ?ty_CarryError ?hd_CarryError ?is_CarryError ?su_BadNumber_ZeroBottom ?su_BadNumber_CarryError ?sT_BadNumber_ValueError ?gs ?gt ?nd2 ?a_Ratio___init__ ?i_Ratio___init__ ?l_Ratio___init__ ?lT_Ratio___init__ ?c_Ratio___init__ ?k_Ratio___init__ ?a_Ratio_text ?i_Ratio_text ?l_Ratio_text ?c_Ratio_text ?k_Ratio_text ?a_whole_of ?l_whole_of ?c_whole_of ?k_whole_of ?a_Ratio_read ?r_Ratio_read ?rd_Ratio_read ?ga_Ratio_read ?fi_Ratio_read ?l_Ratio_read ?c_Ratio_read ?k_Ratio_read ?a__law_start ?l__law_start ?c__law_start ?k__law_start ?a__law_digit ?l__law_digit ?c__law_digit ?k__law_digit ?a__law_lowest ?l__law_lowest ?c__law_lowest ?k__law_lowest ?a__law_long ?l__law_long ?c__law_long ?k__law_long ?a__law_fraction ?l__law_fraction ?c__law_fraction ?k__law_fraction ?a__law_written ?l__law_written ?c__law_written ?k__law_written ?a__law_reads ?l__law_reads ?c__law_reads ?k__law_reads ?a__law_refuses ?l__law_refuses ?c__law_refuses ?k__law_refuses ?a__law_spoilt ?l__law_spoilt ?c__law_spoilt ?k__law_spoilt ?a__law_bounds ?l__law_bounds ?c__law_bounds ?k__law_bounds ?a_law ?l_law ?c_law ?k_law ?a_BadNumber___init__ ?i_BadNumber___init__ ?l_BadNumber___init__ ?c_BadNumber___init__ ?k_BadNumber___init__ ?z_abs ?z_len ?z_int ?z_bool ?z_str ?z_range ?z_isinstance ?z_ValueError ?v_gcd ?v_MOST_DIGITS ?v_MOST_CHARACTERS ?v_DIGITS
    (case a_Ratio => k_is)
    (case pg_Ratio => k_is)
    (case hd_Ratio => k_is)
    (case po_Ratio => k_is)
    (case sa_Ratio => k_is)
    (case mk_Ratio => k_is)
    (case sf_Ratio => k_is)
    (case kc_Ratio => k_is)
    (case ha_Ratio => k_is)
    (case mo_Ratio => k_is)
    (case is_Ratio => k_is)
    (case su_Ratio => k_is)
    (case ty_Ratio => k_is)
    (case no_top_Ratio => k_is)
    (case no_bottom_Ratio => k_is)
    (case a_ZeroBottom => k_is)
    (case xi_ZeroBottom => k_exc)
    (case ex_ZeroBottom => k_is)
    (case ty_ZeroBottom => k_is)
    (case kc_ZeroBottom => k_is)
    (case ga_ZeroBottom => k_is)
    (case gg_ZeroBottom => k_is)
    (case hd_ZeroBottom => k_is)
    (case ha_ZeroBottom => k_is)
    (case mo_ZeroBottom => k_is)
    (case is_ZeroBottom => k_is)
    (case su_ZeroBottom => k_is)
    (case a_BadNumber => k_is)
    (case l_BadNumber => k_is)
    (case rf_BadNumber => decide +kernel)
    (case sa_BadNumber => k_is)
    (case ex_BadNumber => k_is)
    (case ty_BadNumber => k_is)
    (case kc_BadNumber => k_is)
    (case ga_BadNumber => k_is)
    (case gg_BadNumber => k_is)
    (case hd_BadNumber => k_is)
    (case ha_BadNumber => k_is)
    (case mo_BadNumber => k_is)
    (case is_BadNumber => k_is)
    (case su_BadNumber => k_is)
    (case no_given_BadNumber => k_is)
    (case a_CarryError => k_is)
    (case ex_CarryError => k_is)
    (case ty_CarryError => k_is)
    (case hd_CarryError => k_is)
    (case is_CarryError => k_is)
    (case su_BadNumber_ZeroBottom => k_is)
    (case su_BadNumber_CarryError => k_is)
    (case sT_BadNumber_ValueError => k_is)
    (case gs => k_is)
    (case gt => k_is)
    (case nd2 => k_is)
    (case a_Ratio___init__ => k_is)
    (case i_Ratio___init__ => k_is)
    (case l_Ratio___init__ => k_is)
    (case lT_Ratio___init__ => k_is)
    (case c_Ratio___init__ => k_is)
    (case k_Ratio___init__ => k_is)
    (case a_Ratio_text => k_is)
    (case i_Ratio_text => k_is)
    (case l_Ratio_text => k_is)
    (case c_Ratio_text => k_is)
    (case k_Ratio_text => k_is)
    (case a_whole_of => k_is)
    (case l_whole_of => k_is)
    (case c_whole_of => k_is)
    (case k_whole_of => k_is)
    (case a_Ratio_read => k_is)
    (case r_Ratio_read => k_is)
    (case rd_Ratio_read => k_is)
    (case ga_Ratio_read => k_is)
    (case fi_Ratio_read => k_is)
    (case l_Ratio_read => k_is)
    (case c_Ratio_read => k_is)
    (case k_Ratio_read => k_is)
    (case a__law_start => k_is)
    (case l__law_start => k_is)
    (case c__law_start => k_is)
    (case k__law_start => k_is)
    (case a__law_digit => k_is)
    (case l__law_digit => k_is)
    (case c__law_digit => k_is)
    (case k__law_digit => k_is)
    (case a__law_lowest => k_is)
    (case l__law_lowest => k_is)
    (case c__law_lowest => k_is)
    (case k__law_lowest => k_is)
    (case a__law_long => k_is)
    (case l__law_long => k_is)
    (case c__law_long => k_is)
    (case k__law_long => k_is)
    (case a__law_fraction => k_is)
    (case l__law_fraction => k_is)
    (case c__law_fraction => k_is)
    (case k__law_fraction => k_is)
    (case a__law_written => k_is)
    (case l__law_written => k_is)
    (case c__law_written => k_is)
    (case k__law_written => k_is)
    (case a__law_reads => k_is)
    (case l__law_reads => k_is)
    (case c__law_reads => k_is)
    (case k__law_reads => k_is)
    (case a__law_refuses => k_is)
    (case l__law_refuses => k_is)
    (case c__law_refuses => k_is)
    (case k__law_refuses => k_is)
    (case a__law_spoilt => k_is)
    (case l__law_spoilt => k_is)
    (case c__law_spoilt => k_is)
    (case k__law_spoilt => k_is)
    (case a__law_bounds => k_is)
    (case l__law_bounds => k_is)
    (case c__law_bounds => k_is)
    (case k__law_bounds => k_is)
    (case a_law => k_is)
    (case l_law => k_is)
    (case c_law => k_is)
    (case k_law => k_is)
    (case a_BadNumber___init__ => k_is)
    (case i_BadNumber___init__ => k_is)
    (case l_BadNumber___init__ => k_is)
    (case c_BadNumber___init__ => k_is)
    (case k_BadNumber___init__ => k_is)
    (case z_abs => k_is)
    (case z_len => k_is)
    (case z_int => k_is)
    (case z_bool => k_is)
    (case z_str => k_is)
    (case z_range => k_is)
    (case z_isinstance => k_is)
    (case z_ValueError => k_is)
    (case v_gcd => k_is)
    (case v_MOST_DIGITS => k_is)
    (case v_MOST_CHARACTERS => k_is)
    (case v_DIGITS => k_is)
