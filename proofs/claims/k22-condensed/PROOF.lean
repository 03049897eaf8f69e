import PyProof.Rows.All
import Wide.All
import OpenK.AllK
import Wide.FinOn
import HandS.ForMost
import HandS.ForExc
import HandS.ExcInit
import HandS.CallSlots
import HandS.Wide
import HandS.Style
import HandS.IsInst
import HandS.Comp
import HandS.Gcd
import HandS.ExcCtx
import HandS.HotCalls
import HandS.Defaults
import HandS.ExcField
import HandS.EndBits
import HandS.Head3
import HandS.HeadHook1
import HandS.HeadHook2
import HandS.Codes
import PySem.Challenge.RW_fewcarry_k22_condensed
import KE.KExcIs
import HandS.ExcIs
import HandS.OwnEq
import PyProof.P3Eq
import HandS.ClsMeth
import PyProof.FitsInt
import KE.KOpsOwn
import HandS.SetFor
import HandS.WideBits
import PyProof.Rows.RuleN_abs
import HandS.Zip
import PyProof.Rows.StrOr
import PyProof.StrOps2
import KE.KIntText
import KE.IntTextLaws
import HandS.Dict
import PyProof.FactsLen
import KE.KMathGC
import HandS.Iter
import KE.KDictWalk
set_option Elab.async false
set_option linter.all false
set_option maxRecDepth 100000
/-! DL1: values as trees (D), what lies mutable (Mu), and what a reading of the hand layer does to them. -/
namespace DL
open PySem PySem.Spec L2
open PyProof.Rows hiding St

inductive D where
  | non | bl (b : Bool) | int (i : Int) | str (x : Str) | ty (n : String) | ref (a : Addr)
  | tup (xs : List D) | lst (xs : List D) | dic (kvs : List (Key × D)) | ins (C : Addr) (ns : List Str) (ds : List D)
  /-- a caught exception: where it stands, its own dict, its class, its fields -/
  | exc (a : Addr) (dd : Option Addr) (C : Addr) (ns : List Str) (ds : List D)

/-- a mutable object that stands at an address -/
inductive MO where
  | lst (xs : List D) | dic (kvs : List (Key × D)) | ins (C : Addr) (ns : List Str) (ds : List D)
  /-- a dict whose keys are tuples -/
  | dit (kvs : List (List Key × D))
  /-- .. while it is gone over -/
  | lkd (o : Obj) (kws : List (List Key × V)) (kvs : List (List Key × D))
abbrev Mu := List (Addr × MO)
def dom (m : Mu) (a : Addr) : Prop := a ∈ m.map (·.1)
theorem dom_nil {a : Addr} : ¬ dom [] a := fun h => by simp [dom] at h
theorem dom_cons {m : Mu} {p : Addr × MO} {a : Addr} : dom (p :: m) a ↔ a = p.1 ∨ dom m a := by simp [dom]

mutual
inductive Rep (M : Addr → Prop) (H : Hp) : D → V → Prop
  | non : Rep M H .non .non
  | bl (b : Bool) : Rep M H (.bl b) (.bl b)
  | int (i : Int) : Rep M H (.int i) (.int i)
  | str (x : Str) : Rep M H (.str x) (.str x)
  | ty (n : String) : Rep M H (.ty n) (.ty n)
  | ref (a : Addr) : Rep M H (.ref a) (.ref a)
  | tup {a : Addr} {xs : List D} {vs : List V} (m : ¬ M a) (h : H a = some (.tup vs)) (r : Reps M H xs vs) : Rep M H (.tup xs) (.ref a)
  | lst {a : Addr} {xs : List D} {vs : List V} (m : ¬ M a) (h : Rd H a (.lst vs)) (r : Reps M H xs vs) : Rep M H (.lst xs) (.ref a)
  | dic {a : Addr} {kvs : List (Key × D)} {kws : List (Key × V)} (m : ¬ M a) (h : H a = some (.dK kws)) (r : RepK M H kvs kws) : Rep M H (.dic kvs) (.ref a)
  | ins {a C dx : Addr} {ns : List Str} {ds : List D} {gs : List (Str × V)} (m : ¬ M a) (h : H a = some (.ins C dx gs)) (r : RepF M H ns ds gs) : Rep M H (.ins C ns ds) (.ref a)
  | excN {a C : Addr} : Rep M H (.exc a none C [] []) (.ref a)
  | excS {a d C : Addr} {ns : List Str} {ds : List D} {gs : List (Str × V)} (m : ¬ M d) (h : H d = some (.xd gs)) (r : RepF M H ns ds gs) : Rep M H (.exc a (some d) C ns ds) (.ref a)
inductive Reps (M : Addr → Prop) (H : Hp) : List D → List V → Prop
  | nil : Reps M H [] []
  | cons {d : D} {v : V} {ds : List D} {vs : List V} (r : Rep M H d v) (t : Reps M H ds vs) : Reps M H (d :: ds) (v :: vs)
inductive RepK (M : Addr → Prop) (H : Hp) : List (Key × D) → List (Key × V) → Prop
  | nil : RepK M H [] []
  | cons {k : Key} {d : D} {v : V} {ds : List (Key × D)} {vs : List (Key × V)} (r : Rep M H d v) (t : RepK M H ds vs) : RepK M H ((k, d) :: ds) ((k, v) :: vs)
inductive RepF (M : Addr → Prop) (H : Hp) : List Str → List D → List (Str × V) → Prop
  | nil : RepF M H [] [] []
  | cons {n : Str} {d : D} {v : V} {ns : List Str} {ds : List D} {vs : List (Str × V)} (r : Rep M H d v) (t : RepF M H ns ds vs) : RepF M H (n :: ns) (d :: ds) ((n, v) :: vs)
end

/-- from M, H to M', H': what was fixed is fixed and as it was -/
def Stp (M : Addr → Prop) (H : Hp) (M' : Addr → Prop) (H' : Hp) : Prop := ∀ a o, H a = some o → ¬ M a → H' a = some o ∧ ¬ M' a
theorem Stp.refl (M : Addr → Prop) (H : Hp) : Stp M H M H := fun _ _ h m => ⟨h, m⟩
theorem Stp.trans {M M1 M2 : Addr → Prop} {H H1 H2 : Hp} (a : Stp M H M1 H1) (b : Stp M1 H1 M2 H2) : Stp M H M2 H2 := fun x o h m => b x o (a x o h m).1 (a x o h m).2
theorem Stp.rd {M M' : Addr → Prop} {H H' : Hp} (s : Stp M H M' H') {a : Addr} {u : HO} (m : ¬ M a) (h : Rd H a u) : Rd H' a u ∧ ¬ M' a := by
  rcases h with h | ⟨o, h⟩
  · exact ⟨.inl (s a _ h m).1, (s a _ h m).2⟩
  · exact ⟨.inr ⟨o, (s a _ h m).1⟩, (s a _ h m).2⟩
/-- a new object is laid (fixed) -/
theorem Stp.new {M : Addr → Prop} {H : Hp} {p : Addr} {o : HO} (n : H p = none) : Stp M H M (upd H p o) := fun a u h m => ⟨by rw [upd_ne (ne_of_none h n)]; exact h, m⟩
/-- .. mutable -/
theorem Stp.newM {m : Mu} {H : Hp} {p : Addr} {o : HO} {x : MO} (n : H p = none) : Stp (dom m) H (dom ((p, x) :: m)) (upd H p o) := fun a u h k =>
  ⟨by rw [upd_ne (ne_of_none h n)]; exact h, fun z => (dom_cons.mp z).elim (ne_of_none h n) k⟩
/-- a mutable one is written -/
theorem Stp.wr {m m' : Mu} {H : Hp} {p : Addr} {o : HO} (hp : dom m p) (hd : ∀ a, dom m' a → dom m a) : Stp (dom m) H (dom m') (upd H p o) := fun a u h k =>
  ⟨by rw [upd_ne (fun e => k (by rw [e]; exact hp))]; exact h, fun z => k (hd a z)⟩
theorem Stp.less {M M' : Addr → Prop} {H : Hp} (h : ∀ a, M' a → M a) : Stp M H M' H := fun a _ e m => ⟨e, fun z => m (h a z)⟩

mutual
theorem Rep.mono {M M' : Addr → Prop} {H H' : Hp} (s : Stp M H M' H') : ∀ {d : D} {v : V}, Rep M H d v → Rep M' H' d v
  | _, _, .non => .non
  | _, _, .bl b => .bl b
  | _, _, .int i => .int i
  | _, _, .str x => .str x
  | _, _, .ty n => .ty n
  | _, _, .ref a => .ref a
  | _, _, .tup m h r => .tup (s _ _ h m).2 (s _ _ h m).1 (Reps.mono s r)
  | _, _, .lst m h r => .lst (s.rd m h).2 (s.rd m h).1 (Reps.mono s r)
  | _, _, .dic m h r => .dic (s _ _ h m).2 (s _ _ h m).1 (RepK.mono s r)
  | _, _, .ins m h r => .ins (s _ _ h m).2 (s _ _ h m).1 (RepF.mono s r)
  | _, _, .excN => .excN
  | _, _, .excS m h r => .excS (s _ _ h m).2 (s _ _ h m).1 (RepF.mono s r)
theorem Reps.mono {M M' : Addr → Prop} {H H' : Hp} (s : Stp M H M' H') : ∀ {d : List D} {v : List V}, Reps M H d v → Reps M' H' d v
  | _, _, .nil => .nil
  | _, _, .cons r t => .cons (Rep.mono s r) (Reps.mono s t)
theorem RepK.mono {M M' : Addr → Prop} {H H' : Hp} (s : Stp M H M' H') : ∀ {d : List (Key × D)} {v : List (Key × V)}, RepK M H d v → RepK M' H' d v
  | _, _, .nil => .nil
  | _, _, .cons r t => .cons (Rep.mono s r) (RepK.mono s t)
theorem RepF.mono {M M' : Addr → Prop} {H H' : Hp} (s : Stp M H M' H') : ∀ {n : List Str} {d : List D} {v : List (Str × V)}, RepF M H n d v → RepF M' H' n d v
  | _, _, _, .nil => .nil
  | _, _, _, .cons r t => .cons (Rep.mono s r) (RepF.mono s t)
end

theorem Reps.length {M : Addr → Prop} {H : Hp} : ∀ {d : List D} {v : List V}, Reps M H d v → d.length = v.length
  | _, _, .nil => rfl
  | _, _, .cons _ t => congrArg (· + 1) (Reps.length t)
theorem Reps.get {M : Addr → Prop} {H : Hp} : ∀ {d : List D} {v : List V} {i : Nat} {x : D}, Reps M H d v → d[i]? = some x → ∃ y, v[i]? = some y ∧ Rep M H x y
  | _, _, _, _, .nil, e => by simp at e
  | _, _, 0, _, .cons r _, e => by simp at e; subst e; exact ⟨_, rfl, r⟩
  | _, _, i + 1, x, .cons _ t, e => by
    obtain ⟨y, h1, h2⟩ := Reps.get (i := i) (x := x) t (by simpa using e)
    exact ⟨y, by simpa using h1, h2⟩
theorem Reps.getV {M : Addr → Prop} {H : Hp} : ∀ {d : List D} {v : List V} {i : Nat} {y : V}, Reps M H d v → v[i]? = some y → ∃ x, d[i]? = some x ∧ Rep M H x y
  | _, _, _, _, .nil, e => by simp at e
  | _, _, 0, _, .cons r _, e => by simp at e; subst e; exact ⟨_, rfl, r⟩
  | _, _, i + 1, y, .cons _ t, e => by
    obtain ⟨x, h1, h2⟩ := Reps.getV (i := i) (y := y) t (by simpa using e)
    exact ⟨x, by simpa using h1, h2⟩
theorem Reps.append {M : Addr → Prop} {H : Hp} : ∀ {d d' : List D} {v v' : List V}, Reps M H d v → Reps M H d' v' → Reps M H (d ++ d') (v ++ v')
  | _, _, _, _, .nil, h => h
  | _, _, _, _, .cons r t, h => .cons r (Reps.append t h)
theorem Reps.set {M : Addr → Prop} {H : Hp} {x : D} {y : V} (q : Rep M H x y) : ∀ {d : List D} {v : List V} (i : Nat), Reps M H d v → Reps M H (d.set i x) (v.set i y)
  | _, _, _, .nil => .nil
  | _, _, 0, .cons _ t => .cons q t
  | _, _, i + 1, .cons r t => .cons r (Reps.set q i t)
theorem Reps.drop {M : Addr → Prop} {H : Hp} : ∀ {d : List D} {v : List V} (n : Nat), Reps M H d v → Reps M H (d.drop n) (v.drop n)
  | _, _, 0, h => h
  | _, _, _ + 1, .nil => .nil
  | _, _, n + 1, .cons _ t => Reps.drop n t
theorem Reps.take {M : Addr → Prop} {H : Hp} : ∀ {d : List D} {v : List V} (n : Nat), Reps M H d v → Reps M H (d.take n) (v.take n)
  | _, _, 0, _ => .nil
  | _, _, _ + 1, .nil => .nil
  | _, _, n + 1, .cons r t => .cons r (Reps.take n t)
theorem Reps.ints {M : Addr → Prop} {H : Hp} : ∀ (l : List Int), Reps M H (l.map D.int) (l.map V.int)
  | [] => .nil
  | i :: l => .cons (.int i) (Reps.ints l)
theorem RepF.names {M : Addr → Prop} {H : Hp} : ∀ {n : List Str} {d : List D} {v : List (Str × V)}, RepF M H n d v → v.map (·.1) = n
  | _, _, _, .nil => rfl
  | _, _, _, .cons _ t => congrArg (_ :: ·) (RepF.names t)
/-- the place of a field -/
def fix (f : Str) : List Str → List D → Option D
  | n :: ns, d :: ds => if f = n then some d else fix f ns ds
  | _, _ => none
theorem RepF.look {M : Addr → Prop} {H : Hp} {f : Str} {x : D} : ∀ {n : List Str} {d : List D} {v : List (Str × V)}, RepF M H n d v → fix f n d = some x → ∃ y, v.lookup f = some y ∧ Rep M H x y
  | _, _, _, .nil, e => by simp [fix] at e
  | n :: ns, d :: ds, (_, v) :: vs, .cons r t, e => by
    unfold fix at e
    rw [lookup_put]
    by_cases h : f = n
    · rw [if_pos h] at e ⊢
      cases e
      exact ⟨v, rfl, r⟩
    · rw [if_neg h] at e ⊢
      exact RepF.look t e
theorem lookup_none {f : Str} : ∀ {v : List (Str × V)}, f ∉ v.map (·.1) → v.lookup f = none
  | [], _ => rfl
  | (n, v) :: vs, h => by
    rw [lookup_put, if_neg (fun e => h (by simp [e]))]
    exact lookup_none (fun z => h (by simp [z]))
theorem RepF.no {M : Addr → Prop} {H : Hp} {f : Str} {n : List Str} {d : List D} {v : List (Str × V)} (r : RepF M H n d v) (h : n.contains f = false) : v.lookup f = none :=
  lookup_none fun z => by
    rw [r.names] at z
    rw [List.contains_iff_mem.mpr z] at h
    cases h

/-! ### the mutable part -/
inductive RepT {κ : Type} (M : Addr → Prop) (H : Hp) : List (κ × D) → List (κ × V) → Prop
  | nil : RepT M H [] []
  | cons {k : κ} {d : D} {v : V} {ds : List (κ × D)} {vs : List (κ × V)} (r : Rep M H d v) (t : RepT M H ds vs) : RepT M H ((k, d) :: ds) ((k, v) :: vs)
theorem RepT.mono {κ : Type} {M M' : Addr → Prop} {H H' : Hp} (s : Stp M H M' H') : ∀ {d : List (κ × D)} {v : List (κ × V)}, RepT M H d v → RepT M' H' d v
  | _, _, .nil => .nil
  | _, _, .cons r t => .cons (Rep.mono s r) (RepT.mono s t)
inductive MRep (M : Addr → Prop) (H : Hp) (a : Addr) : MO → Prop
  | lst {xs : List D} {vs : List V} (h : H a = some (.lst vs)) (r : Reps M H xs vs) : MRep M H a (.lst xs)
  | dic {kvs : List (Key × D)} {kws : List (Key × V)} (h : H a = some (.dK kws)) (r : RepK M H kvs kws) : MRep M H a (.dic kvs)
  | ins {C dx : Addr} {ns : List Str} {ds : List D} {gs : List (Str × V)} (h : H a = some (.ins C dx gs)) (r : RepF M H ns ds gs) : MRep M H a (.ins C ns ds)
  | dit {kvs : List (List Key × D)} {kws : List (List Key × V)} (h : H a = some (.dT kws)) (r : RepT M H kvs kws) : MRep M H a (.dit kvs)
  | lkd {o : Obj} {kvs : List (List Key × D)} {kws : List (List Key × V)} (h : H a = some (.frz o (.dT kws))) (r : RepT M H kvs kws) : MRep M H a (.lkd o kws kvs)
structure MutR (m : Mu) (H : Hp) : Prop where
  nd : (m.map (·.1)).Nodup
  at_ : ∀ p ∈ m, MRep (dom m) H p.1 p.2
theorem MRep.there {M : Addr → Prop} {H : Hp} {a : Addr} {o : MO} (r : MRep M H a o) : ∃ u, H a = some u := by
  cases r with
  | lst h _ => exact ⟨_, h⟩
  | dic h _ => exact ⟨_, h⟩
  | ins h _ => exact ⟨_, h⟩
  | dit h _ => exact ⟨_, h⟩
  | lkd h _ => exact ⟨_, h⟩
theorem MRep.mono {M M' : Addr → Prop} {H H' : Hp} {a : Addr} {o : MO} (s : Stp M H M' H') (k : ∀ u, H a = some u → H' a = some u) (r : MRep M H a o) : MRep M' H' a o := by
  cases r with
  | lst h r => exact .lst (k _ h) (r.mono s)
  | dic h r => exact .dic (k _ h) (r.mono s)
  | ins h r => exact .ins (k _ h) (r.mono s)
  | dit h r => exact .dit (k _ h) (r.mono s)
  | lkd h r => exact .lkd (k _ h) (r.mono s)
theorem MutR.nil (H : Hp) : MutR [] H := ⟨List.nodup_nil, fun _ h => by cases h⟩
theorem MutR.there {m : Mu} {H : Hp} (r : MutR m H) {a : Addr} (h : dom m a) : ∃ u, H a = some u := by
  obtain ⟨p, hp, e⟩ := List.mem_map.mp h
  subst e
  exact (r.at_ p hp).there
/-- a new fixed object -/
theorem MutR.new {m : Mu} {H : Hp} {p : Addr} {o : HO} (r : MutR m H) (n : H p = none) : MutR m (upd H p o) :=
  ⟨r.nd, fun q hq => (r.at_ q hq).mono (Stp.new n) fun u e => by rw [upd_ne (ne_of_none e n)]; exact e⟩
/-- a new mutable object -/
theorem MutR.newM {m : Mu} {H : Hp} {p : Addr} {o : HO} {x : MO} (r : MutR m H) (n : H p = none) (h : MRep (dom ((p, x) :: m)) (upd H p o) p x) : MutR ((p, x) :: m) (upd H p o) := by
  refine ⟨List.nodup_cons.mpr ⟨fun z => ?_, r.nd⟩, fun q hq => ?_⟩
  · obtain ⟨u, e⟩ := r.there (a := p) z
    rw [n] at e
    cases e
  · rcases List.mem_cons.mp hq with e | hq
    · subst e; exact h
    · exact (r.at_ q hq).mono (Stp.newM n) fun u e => by rw [upd_ne (ne_of_none e n)]; exact e
inductive At : Mu → Addr → MO → Prop
  | head {m : Mu} {p : Addr} {o : MO} : At ((p, o) :: m) p o
  | tail {m : Mu} {p : Addr} {o : MO} {q : Addr × MO} (h : At m p o) : At (q :: m) p o
inductive Put : Mu → Addr → MO → Mu → Prop
  | head {m : Mu} {p : Addr} {o u : MO} : Put ((p, o) :: m) p u ((p, u) :: m)
  | tail {m m' : Mu} {p : Addr} {u : MO} {q : Addr × MO} (h : Put m p u m') : Put (q :: m) p u (q :: m')
theorem At.mem {m : Mu} {p : Addr} {o : MO} (h : At m p o) : (p, o) ∈ m := by
  induction h with
  | head => exact List.mem_cons_self ..
  | tail _ ih => exact List.mem_cons_of_mem _ ih
theorem At.dom {m : Mu} {p : Addr} {o : MO} (h : At m p o) : dom m p := List.mem_map.mpr ⟨_, h.mem, rfl⟩
theorem At.rep {m : Mu} {p : Addr} {o : MO} {H : Hp} (h : At m p o) (r : MutR m H) : MRep (DL.dom m) H p o := r.at_ _ h.mem
theorem Put.keys {m m' : Mu} {p : Addr} {u : MO} (h : Put m p u m') : m'.map (·.1) = m.map (·.1) := by
  induction h with
  | head => rfl
  | tail _ ih => simp [ih]
theorem Put.dom {m m' : Mu} {p : Addr} {u : MO} (h : Put m p u m') : dom m' = dom m := by
  funext a
  unfold DL.dom
  rw [h.keys]
theorem Put.has {m m' : Mu} {p : Addr} {u : MO} (h : Put m p u m') : DL.dom m p := by
  induction h with
  | head => exact dom_cons.mpr (.inl rfl)
  | tail _ ih => exact dom_cons.mpr (.inr ih)
theorem Put.mem {m m' : Mu} {p : Addr} {u : MO} (h : Put m p u m') (nd : (m.map (·.1)).Nodup) : ∀ q ∈ m', (q = (p, u)) ∨ (q ∈ m ∧ q.1 ≠ p) := by
  induction h with
  | head =>
    intro q hq
    rcases List.mem_cons.mp hq with e | hq
    · exact .inl e
    · refine .inr ⟨List.mem_cons_of_mem _ hq, fun e => ?_⟩
      exact (List.nodup_cons.mp nd).1 (List.mem_map.mpr ⟨q, hq, e⟩)
  | tail h ih =>
    intro q hq
    rcases List.mem_cons.mp hq with e | hq
    · subst e
      refine .inr ⟨List.mem_cons_self .., fun e => ?_⟩
      have z := h.has
      rw [← e] at z
      exact (List.nodup_cons.mp nd).1 z
    · rcases ih (List.nodup_cons.mp nd).2 q hq with e | ⟨a, b⟩
      · exact .inl e
      · exact .inr ⟨List.mem_cons_of_mem _ a, b⟩
/-- a mutable object is written -/
theorem Put.stp {m m' : Mu} {p : Addr} {u : MO} {H : Hp} {o : HO} (h : Put m p u m') : Stp (DL.dom m) H (DL.dom m') (upd H p o) := Stp.wr h.has (fun a z => by rw [h.dom] at z; exact z)
theorem Put.mut {m m' : Mu} {p : Addr} {u : MO} {H : Hp} {o : HO} (h : Put m p u m') (r : MutR m H) (n : MRep (DL.dom m') (upd H p o) p u) : MutR m' (upd H p o) := by
  refine ⟨by rw [h.keys]; exact r.nd, fun q hq => ?_⟩
  rcases h.mem r.nd q hq with e | ⟨a, b⟩
  · subst e; exact n
  · exact (r.at_ q a).mono h.stp fun v e => by rw [upd_ne b]; exact e
/-- the newest mutable object is let go (it stays as it is) -/
theorem MutR.drop {m : Mu} {p : Addr × MO} {H : Hp} (r : MutR (p :: m) H) : MutR m H :=
  ⟨(List.nodup_cons.mp r.nd).2, fun q hq => (r.at_ q (List.mem_cons_of_mem _ hq)).mono (Stp.less fun a z => dom_cons.mpr (.inr z)) fun _ e => e⟩
theorem MutR.notin {m : Mu} {p : Addr × MO} {H : Hp} (r : MutR (p :: m) H) : ¬ dom m p.1 := (List.nodup_cons.mp r.nd).1

/-! ### frames -/
abbrev Rho := List (Option D)
inductive RO (M : Addr → Prop) (H : Hp) : Option D → Option V → Prop
  | none (v : Option V) : RO M H none v
  | some {d : D} {v : V} (r : Rep M H d v) : RO M H (some d) (some v)
inductive ROs (M : Addr → Prop) (H : Hp) : Rho → St → Prop
  | nil : ROs M H [] []
  | cons {d : Option D} {v : Option V} {ds : Rho} {vs : St} (r : RO M H d v) (t : ROs M H ds vs) : ROs M H (d :: ds) (v :: vs)
theorem RO.mono {M M' : Addr → Prop} {H H' : Hp} (s : Stp M H M' H') {d : Option D} {v : Option V} : RO M H d v → RO M' H' d v
  | .none v => .none v
  | .some r => .some (r.mono s)
theorem ROs.mono {M M' : Addr → Prop} {H H' : Hp} (s : Stp M H M' H') : ∀ {d : Rho} {v : St}, ROs M H d v → ROs M' H' d v
  | _, _, .nil => .nil
  | _, _, .cons r t => .cons (r.mono s) (ROs.mono s t)
theorem ROs.get {M : Addr → Prop} {H : Hp} : ∀ {d : Rho} {v : St} {i : Nat} {x : D}, ROs M H d v → d[i]? = some (some x) → ∃ y, v[i]? = some (some y) ∧ Rep M H x y
  | _, _, _, _, .nil, e => by simp at e
  | _, _, 0, _, .cons r _, e => by
    simp at e
    subst e
    cases r with
    | some r => exact ⟨_, rfl, r⟩
  | _, _, i + 1, x, .cons _ t, e => by
    obtain ⟨y, h1, h2⟩ := ROs.get (i := i) (x := x) t (by simpa using e)
    exact ⟨y, by simpa using h1, h2⟩
theorem ROs.set {M : Addr → Prop} {H : Hp} {x : Option D} {y : Option V} (q : RO M H x y) : ∀ {d : Rho} {v : St} (i : Nat), ROs M H d v → ROs M H (d.set i x) (v.set i y)
  | _, _, _, .nil => .nil
  | _, _, 0, .cons _ t => .cons q t
  | _, _, i + 1, .cons r t => .cons r (ROs.set q i t)
theorem ROs.start {M : Addr → Prop} {H : Hp} (k : Nat) : ∀ {ds : List D} {vs : List V}, Reps M H ds vs → ROs M H (ds.map some ++ List.replicate k none) (vs.map some ++ List.replicate k none)
  | _, _, .nil => by
    induction k with
    | zero => exact .nil
    | succ k ih => exact .cons (.none _) ih
  | _, _, .cons r t => .cons (.some r) (ROs.start k t)
structure EnvR (r : Rho) (m : Mu) (s : St) (H : Hp) : Prop where
  env : ROs (dom m) H r s
  mu : MutR m H
/-- forgetting what slots hold -/
inductive Le : Rho → Rho → Prop
  | nil : Le [] []
  | keep {d : Option D} {r r' : Rho} (t : Le r r') : Le (d :: r) (d :: r')
  | lose {d : Option D} {r r' : Rho} (t : Le r r') : Le (d :: r) (none :: r')
theorem ROs.le {M : Addr → Prop} {H : Hp} : ∀ {r r' : Rho} {v : St}, Le r r' → ROs M H r v → ROs M H r' v
  | _, _, _, .nil, h => h
  | _, _, _, .keep t, .cons a b => .cons a (ROs.le t b)
  | _, _, _, .lose t, .cons _ b => .cons (.none _) (ROs.le t b)

/-! ### exceptions -/
structure Ex where
  C : Addr
  ns : List Str
  ds : List D
def RepX (M : Addr → Prop) (H : Hp) (x : Ex) (cls : Value) (dd : Option Addr) : Prop :=
  cls = .ref x.C ∧ ((dd = none ∧ x.ns = [] ∧ x.ds = []) ∨ ∃ d gs, dd = some d ∧ H d = some (.xd gs) ∧ ¬ M d ∧ RepF M H x.ns x.ds gs)
theorem RepX.mono {M M' : Addr → Prop} {H H' : Hp} (s : Stp M H M' H') {x : Ex} {cls : Value} {dd : Option Addr} (h : RepX M H x cls dd) : RepX M' H' x cls dd := by
  obtain ⟨e, h⟩ := h
  refine ⟨e, ?_⟩
  rcases h with h | ⟨d, gs, h1, h2, h3, h4⟩
  · exact .inl h
  · exact .inr ⟨d, gs, h1, (s _ _ h2 h3).1, (s _ _ h2 h3).2, h4.mono s⟩

/-! ### what is wanted -/
abbrev KT := D → Mu → Prop
abbrev ET := Ex → Rho → Mu → Prop
def Go (m : Mu) (H : Hp) (K : KT) (Q : VK) : Prop := ∀ d m' v H', Stp (dom m) H (dom m') H' → MutR m' H' → Rep (dom m') H' d v → K d m' → Q v H'
def GoT (m : Mu) (H : Hp) (K : Bool → Mu → Prop) (Q : Bool → Hp → Prop) : Prop := ∀ b m' H', Stp (dom m) H (dom m') H' → MutR m' H' → K b m' → Q b H'
def GoA (m : Mu) (H : Hp) (K : List D → Mu → Prop) (Q : List V → Hp → Prop) : Prop := ∀ ds m' vs H', Stp (dom m) H (dom m') H' → MutR m' H' → Reps (dom m') H' ds vs → K ds m' → Q vs H'
/-- what is wanted of exceptions, at the frame's slots -/
def Rz (W : WX) (E : ET) (m : Mu) (H : Hp) : Prop := ∀ x r' m' cls dd s' H', Stp (dom m) H (dom m') H' → EnvR r' m' s' H' → RepX (dom m') H' x cls dd → E x r' m' → W cls dd s' H'
theorem Rz.step {W : WX} {E : ET} {m m1 : Mu} {H H1 : Hp} (z : Rz W E m H) (s : Stp (dom m) H (dom m1) H1) : Rz W E m1 H1 := fun x r' m' cls dd s' H' a b c e => z x r' m' cls dd s' H' (s.trans a) b c e
theorem Go.step {m m1 : Mu} {H H1 : Hp} {K : KT} {Q : VK} (g : Go m H K Q) (s : Stp (dom m) H (dom m1) H1) : Go m1 H1 K Q := fun d m' v H' a b c e => g d m' v H' (s.trans a) b c e

def We (W : WX) (E : ET) (t : TE) (r : Rho) (m : Mu) (K : KT) : Prop := ∀ s H Q, EnvR r m s H → Rz W E m H → Go m H K Q → t s H Q
def Wt (W : WX) (E : ET) (t : TT) (r : Rho) (m : Mu) (K : Bool → Mu → Prop) : Prop := ∀ s H Q, EnvR r m s H → Rz W E m H → GoT m H K Q → t s H Q
def Wa (W : WX) (E : ET) (t : TA) (r : Rho) (m : Mu) (K : List D → Mu → Prop) : Prop := ∀ s H Q, EnvR r m s H → Rz W E m H → GoA m H K Q → t s H Q
structure DEnds where
  nx : Rho → Mu → Prop
  rt : KT
  bk : Rho → Mu → Prop := fun _ _ => False
  ct : Rho → Mu → Prop := fun _ _ => False
structure GoS (m : Mu) (H : Hp) (P : DEnds) (De : Ends) : Prop where
  nx : ∀ r' m' s' H', Stp (dom m) H (dom m') H' → EnvR r' m' s' H' → P.nx r' m' → De.nx s' H'
  rt : ∀ d m' v H', Stp (dom m) H (dom m') H' → MutR m' H' → Rep (dom m') H' d v → P.rt d m' → De.rt v H'
  bk : ∀ r' m' s' H', Stp (dom m) H (dom m') H' → EnvR r' m' s' H' → P.bk r' m' → De.bk s' H'
  ct : ∀ r' m' s' H', Stp (dom m) H (dom m') H' → EnvR r' m' s' H' → P.ct r' m' → De.ct s' H'
theorem GoS.step {m m1 : Mu} {H H1 : Hp} {P : DEnds} {De : Ends} (g : GoS m H P De) (s : Stp (dom m) H (dom m1) H1) : GoS m1 H1 P De :=
  ⟨fun r' m' s' H' a => g.nx r' m' s' H' (s.trans a), fun d m' v H' a => g.rt d m' v H' (s.trans a), fun r' m' s' H' a => g.bk r' m' s' H' (s.trans a), fun r' m' s' H' a => g.ct r' m' s' H' (s.trans a)⟩
def Ws (W : WX) (E : ET) (t : TS) (r : Rho) (m : Mu) (P : DEnds) : Prop := ∀ s H De, EnvR r m s H → Rz W E m H → GoS m H P De → t De s H

section
variable {W : WX} {E : ET} {r : Rho} {m : Mu} {K : KT} {te ta tb tc : TE} {t u : TT} {a : TA} {P : DEnds} {ts tu : TS}
theorem EnvR.step {s : St} {H H1 : Hp} {m1 : Mu} (e : EnvR r m s H) (st : Stp (dom m) H (dom m1) H1) (mu : MutR m1 H1) : EnvR r m1 s H1 := ⟨e.env.mono st, mu⟩
/-- weaker wants -/
theorem We.imp {K' : KT} (h : We W E te r m K) (k : ∀ d m', K d m' → K' d m') : We W E te r m K' := fun s H Q e z g => h s H Q e z fun d m' v H' a b c x => g d m' v H' a b c (k d m' x)
theorem we_var {i : Nat} {d : D} (h : r[i]? = some (some d)) (k : K d m) : We W E (tVar i) r m K := fun s H Q e z g => by
  obtain ⟨v, h1, h2⟩ := e.env.get h
  exact ⟨v, h1, g d m v H (Stp.refl _ _) e.mu h2 k⟩
theorem we_cint {i : Int} (k : K (.int i) m) : We W E (tC (.int i)) r m K := fun s H Q e z g => g _ m _ H (Stp.refl _ _) e.mu (.int i) k
theorem we_cbl {b : Bool} (k : K (.bl b) m) : We W E (tC (.bl b)) r m K := fun s H Q e z g => g _ m _ H (Stp.refl _ _) e.mu (.bl b) k
theorem we_cnon (k : K .non m) : We W E (tC .non) r m K := fun s H Q e z g => g _ m _ H (Stp.refl _ _) e.mu .non k
theorem we_cstr {x : Str} (k : K (.str x) m) : We W E (tC (.str x)) r m K := fun s H Q e z g => g _ m _ H (Stp.refl _ _) e.mu (.str x) k
theorem we_cty {n : String} (k : K (.ty n) m) : We W E (tC (.ty n)) r m K := fun s H Q e z g => g _ m _ H (Stp.refl _ _) e.mu (.ty n) k
theorem we_cref {p : Addr} (k : K (.ref p) m) : We W E (tC (.ref p)) r m K := fun s H Q e z g => g _ m _ H (Stp.refl _ _) e.mu (.ref p) k

/-- an operation on values, at the frame's slots -/
abbrev O2 := V → V → St → Hp → VK → Prop
abbrev O1 := V → St → Hp → VK → Prop
def W2 (W : WX) (E : ET) (o : O2) (x y : D) (r : Rho) (m : Mu) (K : KT) : Prop := ∀ s H Q v w, EnvR r m s H → Rz W E m H → Rep (dom m) H x v → Rep (dom m) H y w → Go m H K Q → o v w s H Q
def W1 (W : WX) (E : ET) (o : O1) (x : D) (r : Rho) (m : Mu) (K : KT) : Prop := ∀ s H Q v, EnvR r m s H → Rz W E m H → Rep (dom m) H x v → Go m H K Q → o v s H Q
def t2 (o : O2) (ta tb : TE) : TE := fun s H Q => ta s H fun x H1 => tb s H1 fun y H2 => o x y s H2 Q
def t1 (o : O1) (ta : TE) : TE := fun s H Q => ta s H fun x H1 => o x s H1 Q
theorem we_2 {o : O2} (h : We W E ta r m fun x m1 => We W E tb r m1 fun y m2 => W2 W E o x y r m2 K) : We W E (t2 o ta tb) r m K := fun s H Q e z g =>
  h s H _ e z fun x m1 v H1 s1 mu1 r1 h1 => h1 s H1 _ (e.step s1 mu1) (z.step s1) fun y m2 w H2 s2 mu2 r2 h2 =>
    h2 s H2 Q v w ((e.step s1 mu1).step s2 mu2) ((z.step s1).step s2) (r1.mono s2) r2 ((g.step s1).step s2)
theorem we_1 {o : O1} (h : We W E ta r m fun x m1 => W1 W E o x r m1 K) : We W E (t1 o ta) r m K := fun s H Q e z g =>
  h s H _ e z fun x m1 v H1 s1 mu1 r1 h1 => h1 s H1 Q v (e.step s1 mu1) (z.step s1) r1 (g.step s1)

end
end DL
set_option Elab.async false
set_option linter.all false
set_option maxRecDepth 100000
/-! DL2: rules without types (an operation's reading is the union of what it can be), and what they do to values as trees. -/
namespace DL
open PySem PySem.Spec L2
open PyProof.Rows hiding St

/-! ### operations at the frame's slots -/
def OpS (X : Cx) (f : Value → Value → Sem Value) (o : O2) : Prop :=
  ∀ (pins : List (Addr × Obj)) (s : Shared) (σ : L2.St) (H : Hp) (x y : V) (u v : Value) (Q : VK), Inv X pins σ H s → RelV x u → RelV y v → o x y σ H Q → wpAny (model X.prog X.w) X.A (f u v) (EP X pins σ Q) X.xe s
def UnS (X : Cx) (f : Value → Sem Value) (o : O1) : Prop :=
  ∀ (pins : List (Addr × Obj)) (s : Shared) (σ : L2.St) (H : Hp) (x : V) (u : Value) (Q : VK), Inv X pins σ H s → RelV x u → o x σ H Q → wpAny (model X.prog X.w) X.A (f u) (EP X pins σ Q) X.xe s
abbrev OC := List V → L2.St → Hp → VK → Prop
def CallS (X : Cx) (f : Value) (o : OC) : Prop :=
  ∀ (pins : List (Addr × Obj)) (s : Shared) (σ : L2.St) (H : Hp) (xs : List V) (us : List Value) (Q : VK), Inv X pins σ H s → Vals xs us → o xs σ H Q → wpAny (model X.prog X.w) X.A (call f us) (EP X pins σ Q) X.xe s
def tC2 (o : OC) (t : TA) : TE := fun σ H Q => t σ H fun vs H1 => o vs σ H1 Q
section
variable {X : Cx} {op : Operator} {cop cop' : CmpOp} {uop : UnaryOp} {o o' : O2} {o1 o1' : O1} {oc oc' : OC} {a b c e : Expr} {es : List Expr} {ta tb tc : TE} {t : TA} {pos p : Pos} {f : Value → Value → Sem Value} {f1 : Value → Sem Value} {fv : Value} {x : Str} {T id : String}
theorem OpS.of {r : R2} (h : OpR X f r) : OpS X f (fun x y _ H Q => r x y H Q) := fun pins s σ H x y u v Q I ru rv q => h pins s σ H x y u v Q I ru rv q
theorem OpS.or (h : OpS X f o) (h' : OpS X f o') : OpS X f (fun x y s H Q => o x y s H Q ∨ o' x y s H Q) := fun pins s σ H x y u v Q I ru rv q => q.elim (h pins s σ H x y u v Q I ru rv) (h' pins s σ H x y u v Q I ru rv)
theorem UnS.of {r : V → Hp → VK → Prop} (h : UnR X f1 r) : UnS X f1 (fun x _ H Q => r x H Q) := fun pins s σ H x u Q I ru q => h pins s σ H x u Q I ru q
theorem UnS.or (h : UnS X f1 o1) (h' : UnS X f1 o1') : UnS X f1 (fun x s H Q => o1 x s H Q ∨ o1' x s H Q) := fun pins s σ H x u Q I ru q => q.elim (h pins s σ H x u Q I ru) (h' pins s σ H x u Q I ru)
theorem CallS.of {r : List V → Hp → VK → Prop} (h : CallR X fv r) : CallS X fv (fun xs _ H Q => r xs H Q) := fun pins s σ H xs us Q I ru q => h pins s σ H xs us Q I ru q
theorem CallS.or (h : CallS X fv oc) (h' : CallS X fv oc') : CallS X fv (fun xs s H Q => oc xs s H Q ∨ oc' xs s H Q) := fun pins s σ H xs us Q I ru q => q.elim (h pins s σ H xs us Q I ru) (h' pins s σ H xs us Q I ru)
theorem pe_bin (ho : OpS X (binaryOp op) o) (ha : PE X a ta) (hb : PE X b tb) : PE X (.BinOp a op b pos) (t2 o ta tb) :=
  ⟨fun pins s σ H Q I h => wpAny_BinOp (binT ha hb I (R := fun x y H2 => o x y σ H2 Q) h fun v u s2 x y H2 I2 r1 r2 q => ho pins s2 σ H2 x y v u Q I2 r1 r2 q)⟩
theorem pe_una (ho : UnS X (unaryOp uop) o1) (ha : PE X a ta) : PE X (.UnaryOp uop a pos) (t1 o1 ta) :=
  ⟨fun pins s σ H Q I h => UnaryOp_ (thn (ha.run pins s σ H _ I h) fun v s1 ⟨x, H1, I1, r1, q1⟩ => ho pins s1 σ H1 x v Q I1 r1 q1)⟩
theorem pe_cm (ho : OpS X (compareOp cop) o) (ha : PE X a ta) (hb : PE X b tb) (hm : behindInMarks cop b = false) : PE X (.Compare a [cop] [b] pos) (t2 o ta tb) :=
  ⟨fun pins s σ H Q I h => wpAny_Compare1 (binT ha hb I (R := fun x y H2 => o x y σ H2 Q) h fun v u s2 x y H2 I2 rx ry q => ho pins s2 σ H2 x y v u Q I2 rx ry q) hm⟩
theorem pt_cm (ho : OpS X (compareOp cop) o) (ha : PE X a ta) (hb : PE X b tb) (hm : behindInMarks cop b = false) : PT X (.Compare a [cop] [b] pos) (tTest (t2 o ta tb)) := by
  refine ⟨fun pins s σ H Q I h => ?_⟩
  refine wpAny_isTrue_Compare1 (thn (ha.run pins s σ H _ I h) fun v s1 ⟨x, H1, I1, r1, q1⟩ => thn (hb.run pins s1 σ H1 _ I1 q1) fun u s2 ⟨y, H2, I2, r2, q2⟩ =>
    thn (ho pins s2 σ H2 x y v u _ I2 r1 r2 q2) fun c s3 ⟨z, H3, I3, r3, k, e, q3⟩ => ?_) hm
  subst e
  cases r3
  exact wpAny_truthy_bool ⟨H3, I3, q3⟩
/-- a chain of two comparisons -/
def t3 (o o' : O2) (ta tb tc : TE) : TE := fun σ H Q => ta σ H fun x H1 => tb σ H1 fun y H2 => o x y σ H2 fun z H3 => ∃ k, z = .bl k ∧
  (if k = true then tc σ H3 fun w' H4 => o' y w' σ H4 Q else Q (.bl false) H3)
theorem pe_ch (ho : OpS X (compareOp cop) o) (ho' : OpS X (compareOp cop') o') (ha : PE X a ta) (hb : PE X b tb) (hc : PE X c tc)
    (hm : lastMarks [cop, cop'] [b, c] = false := by with_unfolding_all rfl) : PE X (.Compare a [cop, cop'] [b, c] pos) (t3 o o' ta tb tc) := by
  refine ⟨fun pins s σ H Q I h => ?_⟩
  refine Compare_chain (thn (ha.run pins s σ H _ I h) fun v s1 ⟨x, H1, I1, r1, q1⟩ => chain_link (thn (hb.run pins s1 σ H1 _ I1 q1) fun u s2 ⟨y, H2, I2, r2, q2⟩ =>
    thn (ho pins s2 σ H2 x y v u _ I2 r1 r2 q2) fun d s3 ⟨z, H3, I3, r3, k, e, q3⟩ => ?_)) hm
  subst e
  cases r3
  refine wpAny_truthy_bool ?_
  cases k with
  | false => exact ite_ff ⟨.bl false, H3, I3, rfl, q3⟩
  | true => exact ite_tt (chain_last (thn (hc.run pins s3 σ H3 _ I3 q3) fun w' s4 ⟨z', H4, I4, r4, q4⟩ => ho' pins s4 σ H4 y z' u w' Q I4 r2 r4 q4))
theorem pt_ch (ho : OpS X (compareOp cop) o) (ho' : OpS X (compareOp cop') o') (ha : PE X a ta) (hb : PE X b tb) (hc : PE X c tc)
    (hm : lastMarks [cop, cop'] [b, c] = false := by with_unfolding_all rfl) : PT X (.Compare a [cop, cop'] [b, c] pos) (tTest (t3 o o' ta tb tc)) := by
  refine ⟨fun pins s σ H Q I h => ?_⟩
  refine isTrue_chain (thn (ha.run pins s σ H _ I h) fun v s1 ⟨x, H1, I1, r1, q1⟩ => test_link (thn (hb.run pins s1 σ H1 _ I1 q1) fun u s2 ⟨y, H2, I2, r2, q2⟩ =>
    thn (ho pins s2 σ H2 x y v u _ I2 r1 r2 q2) fun d s3 ⟨z, H3, I3, r3, k, e, q3⟩ => ?_)) hm
  subst e
  cases r3
  refine wpAny_truthy_bool ?_
  cases k with
  | false =>
    obtain ⟨k', e', q'⟩ := q3
    cases e'
    exact ite_ff ⟨H3, I3, q'⟩
  | true =>
    refine ite_tt (test_last (thn (hc.run pins s3 σ H3 _ I3 q3) fun w' s4 ⟨z', H4, I4, r4, q4⟩ => thn (ho' pins s4 σ H4 y z' u w' _ I4 r2 r4 q4) fun d' s5 ⟨z2, H5, I5, r5, k2, e2, q5⟩ => ?_))
    subst e2
    cases r5
    exact wpAny_truthy_bool ⟨H5, I5, q5⟩
/-- a value as a test -/
def tTr (K : PySem.W.Frag) (ta : TE) : TT := fun σ H Q => ta σ H fun x H' => ∃ k, TruV K x H' k ∧ Q k H'
theorem pt_tr (ha : PE X a ta) (he : ∀ whole, isTrue a X.env whole = (do let v ← whole; standAt a.pos; holding [v] (truthy v)) := by intro _; rfl) : PT X a (tTr X.K ta) := pt_truth ha he
/-- built-in functions and classes by name -/
theorem pe_cb (hc : CallS X (.builtin id) oc) (hg : Gl X x) (hm : X.mg x = none) (hv : bootBuiltins x = some (.builtin id)) (ha : PA X (e :: es) t) (hn : x ≠ "__name__" := by decide) (hdb : (x == ("__debug__" : Str)) = false := by decide)
    (he : starEach (e :: es) X.env = (false, eval e X.env) :: starEach es X.env := by rfl) (hpl : (backTo pos (starEach es X.env)).any (·.1) = false := by rfl) : PE X (.Call (.Name x p) (e :: es) [] pos) (tC2 oc t) := by
  refine ⟨fun pins s σ H Q I h => ?_⟩
  refine wpAny_Call_Name_kw (ld_blt I hg hm hv ?_ hn hdb)
  exact PyProof.Rows.callWith_builtin1 (thn (ha.run pos pins s σ H _ I h) fun us s1 ⟨vs, H1, I1, r1, q1⟩ => hc pins s1 σ H1 vs us Q I1 r1 q1) he hpl
theorem pe_ct (hc : CallS X (.type T) oc) (hg : Gl X x) (hm : X.mg x = none) (hv : bootBuiltins x = some (.type T)) (ha : PA X (e :: es) t) (hn : x ≠ "__name__" := by decide) (hdb : (x == ("__debug__" : Str)) = false := by decide)
    (he : starEach (e :: es) X.env = (false, eval e X.env) :: starEach es X.env := by rfl) (hpl : (backTo pos (starEach es X.env)).any (·.1) = false := by rfl) : PE X (.Call (.Name x p) (e :: es) [] pos) (tC2 oc t) := by
  refine ⟨fun pins s σ H Q I h => ?_⟩
  refine wpAny_Call_Name_kw (ld_blt I hg hm hv ?_ hn hdb)
  exact PyProof.Rows.callWith_type1 (thn (ha.run pos pins s σ H _ I h) fun us s1 ⟨vs, H1, I1, r1, q1⟩ => hc pins s1 σ H1 vs us Q I1 r1 q1) he hpl
theorem pe_cf (hc : CallS X (.builtin id) oc) (hg : Gl X x) (hm : X.mg x = some (.builtin id)) (ha : PA X (e :: es) t) (hdb : (x == ("__debug__" : Str)) = false := by decide)
    (he : starEach (e :: es) X.env = (false, eval e X.env) :: starEach es X.env := by rfl) (hpl : (backTo pos (starEach es X.env)).any (·.1) = false := by rfl) : PE X (.Call (.Name x p) (e :: es) [] pos) (tC2 oc t) := by
  refine ⟨fun pins s σ H Q I h => ?_⟩
  refine wpAny_Call_Name_kw (ld_glob I hg hm ?_ hdb)
  exact PyProof.Rows.callWith_builtin1 (thn (ha.run pos pins s σ H _ I h) fun us s1 ⟨vs, H1, I1, r1, q1⟩ => hc pins s1 σ H1 vs us Q I1 r1 q1) he hpl
end
end DL
set_option Elab.async false
set_option linter.all false
set_option maxRecDepth 100000
/-! DL3: promises over trees; defs, methods, classes called; bodies. -/
namespace DL
open PySem PySem.Spec L2
open PyProof.Rows hiding St

/-- a promise over trees: the arguments, what lies mutable, what is wanted of the answer, of an exception -/
abbrev SpecD := List D → Mu → KT → (Ex → Mu → Prop) → Prop
def GoX (m : Mu) (H : Hp) (E : Ex → Mu → Prop) (F : XK) : Prop := ∀ x m' cls dd H', Stp (dom m) H (dom m') H' → MutR m' H' → RepX (dom m') H' x cls dd → E x m' → F cls dd H'
def spD (n : Nat) (S : SpecD) : Sp := fun vs H Q F => ∃ ds m K E, ds.length = n ∧ Reps (dom m) H ds vs ∧ MutR m H ∧ S ds m K E ∧ Go m H K Q ∧ GoX m H E F
/-- the world of a law: its program, what the top has written -/
structure Gx where
  P : Program
  w : World
  K : PySem.W.Frag
  mg : Str → Option Value
  base : Heap
abbrev Gx.of (X : Cx) : Gx := ⟨X.prog, X.w, X.K, X.mg, X.base⟩
/-- constants handed in as defaults -/
def ofD : D → V
  | .int i => .int i
  | .bl b => .bl b
  | .str x => .str x
  | .ref a => .ref a
  | .ty n => .ty n
  | _ => .non
def isC : D → Bool
  | .int _ => true
  | .bl _ => true
  | .str _ => true
  | .ref _ => true
  | .ty _ => true
  | .non => true
  | _ => false
theorem rep_c {M : Addr → Prop} {H : Hp} : ∀ {d : D}, isC d = true → Rep M H d (ofD d)
  | .non, _ => .non
  | .bl b, _ => .bl b
  | .int i, _ => .int i
  | .str x, _ => .str x
  | .ty n, _ => .ty n
  | .ref a, _ => .ref a
  | .tup _, h => by cases h
  | .lst _, h => by cases h
  | .dic _, h => by cases h
  | .ins _ _ _, h => by cases h
  | .exc _ _ _ _ _, h => by cases h
theorem reps_c {M : Addr → Prop} {H : Hp} : ∀ {ds : List D}, ds.all isC = true → Reps M H ds (ds.map ofD)
  | [], _ => .nil
  | d :: ds, h => by
    rw [List.all_cons, Bool.and_eq_true] at h
    exact .cons (rep_c h.1) (reps_c h.2)
/-- a def that stands at f: n parameters, defaults dd -/
structure Fnx (G : Gx) (k : Nat) (f : Addr) (n : Nat) (S : SpecD) (dd : List D) : Prop where
  ex : ∃ (fd : FuncData) (ps : List Str) (ds : List Value), FnOk G.P G.w G.K G.mg G.base (L2N.CX G.P G.w) k f fd ps (spD n S) ∧ Binds G.K fd ps ds ∧ Vals (dd.map ofD) ds
  cs : dd.all isC = true
structure Cal (G : Gx) (k : Nat) (x : Str) (n : Nat) (S : SpecD) (dd : List D) : Prop where
  ex : ∃ f, Fnx G k f n S dd ∧ G.mg x = some (.ref f) ∧ PySem.W.keepIn G.K (.ref f) = true
/-- a method mt of the class at C, whose instances have the fields ns -/
structure Met (G : Gx) (k : Nat) (C : Addr) (ns : List Str) (mt : Str) (n : Nat) (S : SpecD) (dd : List D) : Prop where
  ex : ∃ f, Fnx G k f n S dd ∧ Meth G.K C mt f
  cl : Cls G.K C
  no : ns.contains mt = false
structure Mak (G : Gx) (k : Nat) (x : Str) (C : Addr) (n : Nat) (S : SpecD) (dd : List D) : Prop where
  ex : ∃ f, Fnx G k f n S dd ∧ Mk G.K C f
  mgC : G.mg x = some (.ref C)

section
variable {X : Cx} {W : WX} {E : ET} {r : Rho} {m : Mu} {K : KT} {S : SpecD} {x mt : Str} {k j n : Nat} {dd : List D} {e o : Expr} {es : List Expr} {t : TA} {to : TE} {p pos apos : Pos} {C : Addr} {ns : List Str}

/-! ### a def by its name -/
def tCl (n : Nat) (S : SpecD) (dd : List D) (W : WX) (t : TA) : TE := tCallSD (spD n S) (dd.map ofD) (WE W) t
theorem pe_cl (c : Cal (Gx.of X) k x n S dd) (hr : Room j X.A) (hk : k ≤ j) (tk : L2N.Takes X W) (hg : Gl X x) (ha : PA X (e :: es) t)
    (hdb : (x == ("__debug__" : Str)) = false := by decide) (he : starEach (e :: es) X.env = (false, eval e X.env) :: starEach es X.env := by rfl) (hpl : (backTo pos (starEach es X.env)).any (·.1) = false := by rfl) :
    PE X (.Call (.Name x p) (e :: es) [] pos) (tCl n S dd W t) := by
  obtain ⟨f, ⟨⟨fd, ps, ds, F, b, d⟩, cs⟩, hm, kp⟩ := c.ex
  exact pe_callSD F (hr.mono hk) hg hm kp b d (L2N.passAt tk) ha hdb he hpl
theorem spD_of {ds : List D} {vs : List V} {m1 : Mu} {H1 : Hp} {Q : VK} {s : L2.St} {F : Ex → Mu → Prop} (hn : ds.length = n) (e : EnvR r m1 s H1) (z : Rz W E m1 H1) (g : Go m1 H1 K Q) (rs : Reps (dom m1) H1 ds vs)
    (h : S ds m1 K F) (hF : ∀ x m', F x m' → E x r m') : spD n S vs H1 Q (WE W s) :=
  ⟨ds, m1, K, F, hn, rs, e.mu, h, g, fun x m' cls dd H' a b c q => z x r m' cls dd s H' a (e.step a b) c (hF x m' q)⟩
theorem we_cl (cs : dd.all isC = true) (h : Wa W E t r m fun ds m1 => (ds ++ dd).length = n ∧ S (ds ++ dd) m1 K fun x m' => E x r m') : We W E (tCl n S dd W t) r m K := fun s H Q e z g =>
  h s H _ e z fun ds m1 vs H1 st mu rs q => spD_of q.1 (e.step st mu) (z.step st) (g.step st) (rs.append (reps_c cs)) q.2 fun _ _ q => q

/-! ### a method of an instance -/
def tMt (G : Gx) (j : Nat) (W : WX) (mt : Str) (to : TE) (t : TA) : TE := fun σ H Q => to σ H fun x H1 => ∃ (a C dx : Addr) (fs : List (Str × V)) (k n : Nat) (ns : List Str) (S : SpecD) (dd : List D), x = .ref a ∧ H1 a = some (.ins C dx fs) ∧ fs.lookup mt = none ∧ k ≤ j ∧ Met G k C ns mt n S dd ∧
  t σ H1 fun vs H2 => spD n S (x :: (vs ++ dd.map ofD)) H2 Q (WE W σ)
theorem pe_mth {pl : Sem Bool} (hr : Room j X.A) (tk : L2N.Takes X W) (he : PE X o to) (ha : PA X (e :: es) t)
    (hst : starEach (e :: es) X.env = (false, eval e X.env) :: starEach es X.env := by rfl) (hpl : (backTo pos (starEach es X.env)).any (·.1) = false := by rfl)
    (ht : eval (.Call (.Attribute o mt apos) (e :: es) [] pos) X.env = (do
      let ov ← eval o X.env
      standAt apos.atName
      let (f, first) ← holding [ov] (getMethod ov mt pl)
      callWith pos f first (backTo pos (starEach (e :: es) X.env)) (backToKw pos (keywordEach [] X.env))) := by rfl) :
    PE X (.Call (.Attribute o mt apos) (e :: es) [] pos) (tMt (Gx.of X) j W mt to t) := by
  refine ⟨fun pins s σ H Q I h => ?_⟩
  refine PySem.W.methodCall_KW (pl := pl) (thn (he.run pins s σ H _ I h) fun u s1 ⟨x, H1, I1, rx, a, C, dx, fs, k, n, ns, S, dd, ex, ea, l, hk, M, q⟩ => ?_) ht
  subst ex
  obtain rfl : u = Value.ref a := rx
  obtain ⟨f, ⟨⟨fd, ps, ds, F, b, d⟩, cs⟩, hm⟩ := M.ex
  refine getmeth_ok I1 ea M.cl hm l ?_
  refine PySem.W.callWith_K (first := [.ref a]) (h₀ := X.base) I.ok.mod.kin hm.kp (thn (ha.run pos pins s1 σ H1 _ I1 q) fun us s2 ⟨vs, H2, I2, rr, q2⟩ => ⟨I2.kIn, ?_⟩) hst hpl
  exact run_fnSD (E := WE W) (us := .ref a :: us) (vs := .ref a :: vs) F (hr.mono hk) b d (L2N.passAt tk σ) I2 (.cons rfl rr) q2
theorem pe_mth0 {pl : Sem Bool} (hr : Room j X.A) (tk : L2N.Takes X W) (he : PE X o to)
    (ht : eval (.Call (.Attribute o mt apos) [] [] pos) X.env = (do
      let ov ← eval o X.env
      standAt apos.atName
      let (f, first) ← holding [ov] (getMethod ov mt pl)
      callWith pos f first (backTo pos (starEach [] X.env)) (backToKw pos (keywordEach [] X.env))) := by rfl) :
    PE X (.Call (.Attribute o mt apos) [] [] pos) (tMt (Gx.of X) j W mt to tNil) := by
  refine ⟨fun pins s σ H Q I h => ?_⟩
  refine PySem.W.methodCall_KW (pl := pl) (thn (he.run pins s σ H _ I h) fun u s1 ⟨x, H1, I1, rx, a, C, dx, fs, k, n, ns, S, dd, ex, ea, l, hk, M, q⟩ => ?_) ht
  subst ex
  obtain rfl : u = Value.ref a := rx
  obtain ⟨f, ⟨⟨fd, ps, ds, F, b, d⟩, cs⟩, hm⟩ := M.ex
  refine getmeth_ok I1 ea M.cl hm l ?_
  exact PySem.W.callWith_K0 (first := [.ref a]) I1.kIn hm.kp (run_fnSD (E := WE W) (us := [.ref a]) (vs := [.ref a]) F (hr.mono hk) b d (L2N.passAt tk σ) I1 (.cons rfl .nil) q)
/-- the instance that a tree is -/
inductive InsD : D → Mu → Addr → List Str → Prop
  | fixed {m : Mu} {C : Addr} {ns : List Str} {ds : List D} : InsD (.ins C ns ds) m C ns
  | mutb {m : Mu} {C a : Addr} {ns : List Str} {ds : List D} (h : At m a (.ins C ns ds)) : InsD (.ref a) m C ns
theorem InsD.look {d : D} {m : Mu} {C : Addr} {ns : List Str} {H : Hp} {v : V} (i : InsD d m C ns) (mu : MutR m H) (rp : Rep (dom m) H d v) : ∃ a dx gs ds, v = .ref a ∧ H a = some (.ins C dx gs) ∧ RepF (dom m) H ns ds gs := by
  cases i with
  | fixed =>
    cases rp with
    | ins mm h rf => exact ⟨_, _, _, _, rfl, h, rf⟩
  | mutb h =>
    cases rp
    have q := h.rep mu
    cases q with
    | ins h rf => exact ⟨_, _, _, _, rfl, h, rf⟩
theorem we_mt {G : Gx} (h : We W E to r m fun d m1 => ∃ (k n : Nat) (C : Addr) (ns : List Str) (S : SpecD) (dd : List D), Met G k C ns mt n S dd ∧ dd.all isC = true ∧ k ≤ j ∧ InsD d m1 C ns ∧
    Wa W E t r m1 fun ds m2 => (d :: (ds ++ dd)).length = n ∧ S (d :: (ds ++ dd)) m2 K fun x m' => E x r m') : We W E (tMt G j W mt to t) r m K := fun s H Q e z g =>
  h s H _ e z fun d m1 v H1 st mu rd q => by
    obtain ⟨k, n, C, ns, S, dd, M, cs, hk, i, q⟩ := q
    obtain ⟨a, dx, gs, ds', rfl, ha, rf⟩ := i.look mu rd
    refine ⟨a, C, dx, gs, k, n, ns, S, dd, rfl, ha, rf.no M.no, hk, M, ?_⟩
    refine q s H1 _ (e.step st mu) (z.step st) fun ds m2 vs H2 st2 mu2 rs q2 => ?_
    exact spD_of q2.1 ((e.step st mu).step st2 mu2) ((z.step st).step st2) ((g.step st).step st2) (.cons (rd.mono st2) (rs.append (reps_c cs))) q2.2 fun _ _ q => q

/-! ### a class by its name -/
theorem run_makeS {CX : CXT} {k : Nat} {C f : Addr} {fd : FuncData} {ps : List Str} {sp : Sp} {ds : List Value} {dvs : List V} {E : L2.St → XK} {pins : List (Addr × Obj)} {σ : L2.St} {H : Hp} {s : Shared} {Q : VK} {us : List Value} {vs : List V} (M : Mk X.K C f) (F : FnOk X.prog X.w X.K X.mg X.base CX k f fd ps sp) (hr : Room (k + 1) X.A) (hb : Binds X.K fd ps ds) (hd : Vals dvs ds)
    (hx : PassesAt CX X σ (E σ)) (I : Inv X pins σ H s) (r : Vals vs us)
    (h : ∀ x dx, H x = none → H dx = none → dx ≠ x → sp (.ref x :: (vs ++ dvs)) (upd (upd H dx (.own x)) x (.ins C dx [])) (fun v H2 => v = .non ∧ Q (.ref x) H2) (E σ)) :
    wpAny (model X.prog X.w) X.A (call (.ref C) us) (EP X pins σ Q) X.xe s := by
  have hq := h (s.heap.objs.size + 1) s.heap.objs.size (I.hok.fresh (Nat.le_succ _)) (I.hok.fresh (Nat.le_refl _)) (Nat.ne_of_lt (Nat.lt_succ_self _))
  have I2 := Inv.made (C := C) I
  have r2 : Vals (V.ref (s.heap.objs.size + 1) :: (vs ++ dvs)) (Value.ref (s.heap.objs.size + 1) :: (us ++ ds)) := .cons rfl (r.append hd)
  have hl : (Value.ref (s.heap.objs.size + 1) :: us ++ ds).length = ps.length := by
    have e := r2.length
    rw [F.len _ _ _ _ hq] at e
    exact e.symm
  refine wpAny_call (make_map (f := f) I.kIn M.makes M.init (beq_iff_eq.mp M.fn) (codeAny_mono (F.run _ X.stack _ _ ⟨Value.ref (s.heap.objs.size + 1) :: us, []⟩ (Value.ref (s.heap.objs.size + 1) :: (us ++ ds)) _ _ (E σ) (hr.make C us [])
    (I2.env0.make C us []) (hb _ (Value.ref (s.heap.objs.size + 1) :: us) I2.kIn hl) r2 hq) fun r s' hq' => ?_))
  cases r with
  | error e => exact hx pins _ _ e s' I2 hq'
  | ok fl =>
    cases fl with
    | ret u =>
      obtain ⟨v, H', I3, rv, ev, q3⟩ := I2.after hq'
      subst ev
      exact ⟨rv, ⟨V.ref (s.heap.objs.size + 1), H', I3, rfl, q3⟩⟩
    | next => exact False.elim hq'
    | brk => exact False.elim hq'
    | cont => exact False.elim hq'
def tMk (C : Addr) (n : Nat) (S : SpecD) (dd : List D) (W : WX) (t : TA) : TE := fun σ H Q => t σ H fun vs H1 => ∀ x dx, H1 x = none → H1 dx = none → dx ≠ x →
  spD n S (.ref x :: (vs ++ dd.map ofD)) (upd (upd H1 dx (.own x)) x (.ins C dx [])) (fun v H2 => v = .non ∧ Q (.ref x) H2) (WE W σ)
theorem pe_mak (c : Mak (Gx.of X) k x C n S dd) (hr : Room j X.A) (hk : k + 1 ≤ j) (tk : L2N.Takes X W) (hg : Gl X x) (ha : PA X (e :: es) t)
    (hdb : (x == ("__debug__" : Str)) = false := by decide) (he : starEach (e :: es) X.env = (false, eval e X.env) :: starEach es X.env := by rfl) (hpl : (backTo pos (starEach es X.env)).any (·.1) = false := by rfl) :
    PE X (.Call (.Name x p) (e :: es) [] pos) (tMk C n S dd W t) := by
  obtain ⟨f, ⟨⟨fd, ps, ds, F, b, d⟩, cs⟩, M⟩ := c.ex
  refine ⟨fun pins s σ H Q I h => ?_⟩
  refine wpAny_Call_Name_kw (ld_glob I hg c.mgC ?_ hdb)
  refine PySem.W.callWith_K (h₀ := X.base) I.ok.mod.kin M.kp (thn (ha.run pos pins s σ H _ I h) fun us s1 ⟨vs, H1, I1, r, q⟩ => ⟨I1.kIn, ?_⟩) he hpl
  exact run_makeS (E := WE W) M F (hr.mono hk) b d (L2N.passAt tk σ) I1 r q
theorem pe_mak0 (c : Mak (Gx.of X) k x C n S dd) (hr : Room j X.A) (hk : k + 1 ≤ j) (tk : L2N.Takes X W) (hg : Gl X x) (hdb : (x == ("__debug__" : Str)) = false := by decide) :
    PE X (.Call (.Name x p) [] [] pos) (tMk C n S dd W tNil) := by
  obtain ⟨f, ⟨⟨fd, ps, ds, F, b, d⟩, cs⟩, M⟩ := c.ex
  refine ⟨fun pins s σ H Q I h => ?_⟩
  refine wpAny_Call_Name_kw (ld_glob I hg c.mgC ?_ hdb)
  exact PySem.W.callWith_K0 I.kIn M.kp (run_makeS (E := WE W) (us := []) M F (hr.mono hk) b d (L2N.passAt tk σ) I .nil h)
/-- a new instance that stays as __init__ leaves it -/
theorem we_mk (cs : dd.all isC = true) (h : Wa W E t r m fun ds m1 => (ds ++ dd).length + 1 = n ∧ ∀ x, ¬ dom m1 x →
    S (.ref x :: (ds ++ dd)) ((x, .ins C [] []) :: m1) (fun d m2 => ∃ ns fs, d = .non ∧ m2 = (x, .ins C ns fs) :: m1 ∧ K (.ins C ns fs) m1) fun ex m2 => ∃ o, m2 = (x, o) :: m1 ∧ E ex r m1) : We W E (tMk C n S dd W t) r m K := fun s H Q e z g =>
  h s H _ e z fun ds m1 vs H1 st mu rs q x dx hx hdx hne => by
    have hn1 : upd H1 dx (.own x) x = none := by rw [upd_ne (Ne.symm hne)]; exact hx
    have s1 : Stp (dom m1) H1 (dom m1) (upd H1 dx (.own x)) := Stp.new hdx
    have mu1 : MutR m1 (upd H1 dx (.own x)) := mu.new hdx
    have s2 : Stp (dom m1) (upd H1 dx (.own x)) (dom ((x, .ins C [] []) :: m1)) (upd (upd H1 dx (.own x)) x (.ins C dx [])) := Stp.newM hn1
    have mu2 : MutR ((x, .ins C [] []) :: m1) (upd (upd H1 dx (.own x)) x (.ins C dx [])) := mu1.newM hn1 (.ins upd_same .nil)
    have nd : ¬ dom m1 x := mu2.notin
    refine ⟨.ref x :: (ds ++ dd), _, _, _, by rw [List.length_cons]; exact q.1, .cons (.ref x) ((rs.append (reps_c cs)).mono (s1.trans s2)), mu2, q.2 x nd, ?_, ?_⟩
    · rintro d m' v H' a b c ⟨ns, fs, rfl, rfl, k⟩
      cases c
      refine ⟨rfl, ?_⟩
      have at1 := (At.head (m := m1) (p := x) (o := .ins C ns fs)).rep b
      have ls : Stp (dom ((x, MO.ins C ns fs) :: m1)) H' (dom m1) H' := Stp.less fun a z => dom_cons.mpr (.inr z)
      cases at1 with
      | ins hh rf => exact g _ m1 _ H' (st.trans ((s1.trans s2).trans (a.trans ls))) b.drop (.ins nd hh (rf.mono ls)) k
    · rintro ex m' cls dd' H' a b c ⟨o, rfl, k⟩
      have ls : Stp (dom ((x, o) :: m1)) H' (dom m1) H' := Stp.less fun a z => dom_cons.mpr (.inr z)
      have tot := st.trans ((s1.trans s2).trans (a.trans ls))
      exact z ex r m1 cls dd' s H' tot (e.step tot b.drop) (c.mono ls) k
end

/-! ### bodies -/
abbrev cxG (G : Gx) (N : List Str) (qual : Str) (st : Stmt) (f : Addr) (cdv : Value) (A : Around) (outer : List Env) (s : Shared) (H : Hp) (F : XK) : Cx := cxOf (L2N.CX G.P G.w) G.P G.w G.K G.mg G.base N qual (defScope st) f cdv A outer s H F
abbrev wF (F : XK) : WX := fun cls d _ H => F cls d H
abbrev eF (E : Ex → Mu → Prop) : ET := fun x _ m => E x m
abbrev pF (K : KT) : DEnds := { nx := fun _ m => K .non m, rt := K }
/-- a promise is kept by the body of the def -/
abbrev FunW (K : PySem.W.Frag) (x qual : Str) (st : Stmt) (dvs : List V) (f : Addr) (fd : FuncData) : Prop := FunD K x qual (defArgs st) (defBody st) (defScope st) dvs [] f fd
theorem funW_of {K : PySem.W.Frag} {x qual : Str} {st : Stmt} {f : Addr} {fd : FuncData} (F : L2.Fun K x qual st f fd) : FunW K x qual st [] f fd := by
  have kp := F.kp
  obtain ⟨oc, od, kV, doc, pm, an, cdv, ct, osl, rfl, lk, hcd⟩ := F.ex
  exact ⟨⟨oc, od, _, kV, doc, pm, an, cdv, ct, osl, rfl, lk, hcd, .inl ⟨rfl, rfl⟩, .inl rfl⟩, kp⟩
theorem fnok_ofD {G : Gx} {xn qual : Str} {st : Stmt} {f : Addr} {fd : FuncData} {N ps : List Str} {k n : Nat} {S : SpecD} {dvs : List V} (F : FunW G.K xn qual st dvs f fd) (Sc : FnScope N ps (defScope st)) (hn : ps.length = n)
    (h : ∀ (cdv : Value) (A : Around) (outer : List Env) (s : Shared) (H : Hp) (F : XK), Room k (cxG G N qual st f cdv A outer s H F).A → L2N.Takes (cxG G N qual st f cdv A outer s H F) (wF F) →
      ∃ t, PSs (cxG G N qual st f cdv A outer s H F) (defBody st) t ∧ ∀ ds m K E, ds.length = n → S ds m K E → Ws (wF F) (eF E) t (ds.map some ++ List.replicate (N.length - n) none) m (pF K)) : FnOk G.P G.w G.K G.mg G.base (L2N.CX G.P G.w) (k + 1) f fd ps (spD n S) := by
  obtain ⟨oc, od, dV, kV, doc, pm, an, cdv, ct, osl, rfl, lk, hcd, _, _⟩ := F.ex
  refine fn_of lk hcd Sc (fun vs H Q E q => ?_) (fun A outer s H vs Q E hr q => ?_)
  · obtain ⟨ds, m, K, E, h1, h2, _⟩ := q
    rw [← h2.length, h1, hn]
  · obtain ⟨ds, m, K, E', h1, h2, mu, hs, g, gx⟩ := q
    obtain ⟨t, ht, hw⟩ := h cdv A outer s H E hr (L2N.takes_of rfl rfl rfl rfl)
    refine ⟨t, ht, hw ds m K E' h1 hs _ H _ ⟨?_, mu⟩ ?_ ?_⟩
    · have e : vs.length = n := by rw [← h2.length, h1]
      unfold L2.start
      rw [e]
      exact ROs.start _ h2
    · intro x r' m' cls dd s' H' a b c q
      exact gx x m' cls dd H' a b.mu c q
    · exact ⟨fun r' m' s' H' a b q => g _ m' _ H' a b.mu .non q, fun d m' v H' a b c q => g d m' v H' a b c q, fun _ _ _ _ _ _ q => q, fun _ _ _ _ _ _ q => q⟩
theorem fnok_of {G : Gx} {xn qual : Str} {st : Stmt} {f : Addr} {fd : FuncData} {N ps : List Str} {k n : Nat} {S : SpecD} (F : L2.Fun G.K xn qual st f fd) (Sc : FnScope N ps (defScope st)) (hn : ps.length = n)
    (h : ∀ (cdv : Value) (A : Around) (outer : List Env) (s : Shared) (H : Hp) (F : XK), Room k (cxG G N qual st f cdv A outer s H F).A → L2N.Takes (cxG G N qual st f cdv A outer s H F) (wF F) →
      ∃ t, PSs (cxG G N qual st f cdv A outer s H F) (defBody st) t ∧ ∀ ds m K E, ds.length = n → S ds m K E → Ws (wF F) (eF E) t (ds.map some ++ List.replicate (N.length - n) none) m (pF K)) : FnOk G.P G.w G.K G.mg G.base (L2N.CX G.P G.w) (k + 1) f fd ps (spD n S) := fnok_ofD (funW_of F) Sc hn h
theorem fnx_ofD {G : Gx} {xn qual : Str} {st : Stmt} {f : Addr} {fd : FuncData} {N ps : List Str} {k n : Nat} {S : SpecD} {dvs : List V} {dd : List D} {ds : List Value} (F : FunW G.K xn qual st dvs f fd) (Sc : FnScope N ps (defScope st)) (hn : ps.length = n)
    (b : Binds G.K fd ps ds) (d : Vals (dd.map ofD) ds) (cs : dd.all isC = true)
    (h : ∀ (cdv : Value) (A : Around) (outer : List Env) (s : Shared) (H : Hp) (F : XK), Room k (cxG G N qual st f cdv A outer s H F).A → L2N.Takes (cxG G N qual st f cdv A outer s H F) (wF F) →
      ∃ t, PSs (cxG G N qual st f cdv A outer s H F) (defBody st) t ∧ ∀ ds m K E, ds.length = n → S ds m K E → Ws (wF F) (eF E) t (ds.map some ++ List.replicate (N.length - n) none) m (pF K)) : Fnx G (k + 1) f n S dd := ⟨⟨_, ps, ds, fnok_ofD F Sc hn h, b, d⟩, cs⟩
theorem fnx_of {G : Gx} {xn qual : Str} {st : Stmt} {f : Addr} {fd : FuncData} {N ps : List Str} {k n : Nat} {S : SpecD} {dd : List D} {ds : List Value} (F : L2.Fun G.K xn qual st f fd) (Sc : FnScope N ps (defScope st)) (hn : ps.length = n)
    (b : Binds G.K fd ps ds) (d : Vals (dd.map ofD) ds) (cs : dd.all isC = true)
    (h : ∀ (cdv : Value) (A : Around) (outer : List Env) (s : Shared) (H : Hp) (F : XK), Room k (cxG G N qual st f cdv A outer s H F).A → L2N.Takes (cxG G N qual st f cdv A outer s H F) (wF F) →
      ∃ t, PSs (cxG G N qual st f cdv A outer s H F) (defBody st) t ∧ ∀ ds m K E, ds.length = n → S ds m K E → Ws (wF F) (eF E) t (ds.map some ++ List.replicate (N.length - n) none) m (pF K)) : Fnx G (k + 1) f n S dd := fnx_ofD (funW_of F) Sc hn b d cs h
/-! ### defs called within an except suite: nothing is raised -/
structure CalH (G : Gx) (k : Nat) (x : Str) (n : Nat) (S : SpecD) : Prop where
  ex : ∃ (f : Addr) (fd : FuncData) (ps : List Str), L2H.FnH G.P G.w G.K G.mg G.base (L2N.CX G.P G.w) k f fd ps (spD n S) ∧ Binds G.K fd ps [] ∧ G.mg x = some (.ref f) ∧ PySem.W.keepIn G.K (.ref f) = true
abbrev cxGH (G : Gx) (N : List Str) (qual : Str) (st : Stmt) (f : Addr) (cdv : Value) (A : Around) (outer : List Env) (s : Shared) (H : Hp) (F : XK) (p : Addr × Obj) : Cx := L2H.cxH (L2N.CX G.P G.w) G.P G.w G.K G.mg G.base N qual (defScope st) f cdv A outer s H F p
theorem calH_of {G : Gx} {x : Str} {st : Stmt} {f : Addr} {fd : FuncData} {N ps : List Str} {k n : Nat} {S : SpecD} (F : L2.Fun G.K x x st f fd) (hm : G.mg x = some (.ref f)) (Sc : FnScope N ps (defScope st)) (hn : ps.length = n)
    (b : Binds G.K fd ps [])
    (h : ∀ (cdv : Value) (A : Around) (outer : List Env) (s : Shared) (H : Hp) (F : XK) (p : Addr × Obj), L2H.Hot1 A p → L2H.RoomH k (cxGH G N x st f cdv A outer s H F p).A → L2N.Takes (cxGH G N x st f cdv A outer s H F p) (wF F) →
      ∃ t, PSs (cxGH G N x st f cdv A outer s H F p) (defBody st) t ∧ ∀ ds m K E, ds.length = n → S ds m K E → Ws (wF F) (eF E) t (ds.map some ++ List.replicate (N.length - n) none) m (pF K)) : CalH G (k + 1) x n S := by
  have kp := F.kp
  obtain ⟨oc, od, kV, doc, pm, an, cdv, ct, osl, rfl, lk, hcd⟩ := F.ex
  refine ⟨f, _, ps, L2H.fn_ofH lk hcd Sc (fun vs H Q E q => ?_) (fun A outer s H vs Q E p hot hr q => ?_), b, hm, kp⟩
  · obtain ⟨ds, m, K, E, h1, h2, _⟩ := q
    rw [← h2.length, h1, hn]
  · obtain ⟨ds, m, K, E', h1, h2, mu, hs, g, gx⟩ := q
    obtain ⟨t, ht, hw⟩ := h cdv A outer s H E p hot hr (L2N.takes_of rfl rfl rfl rfl)
    refine ⟨t, ht, hw ds m K E' h1 hs _ H _ ⟨?_, mu⟩ ?_ ?_⟩
    · have e : vs.length = n := by rw [← h2.length, h1]
      unfold L2.start
      rw [e]
      exact ROs.start _ h2
    · intro x r' m' cls dd s' H' a b c q
      exact gx x m' cls dd H' a b.mu c q
    · exact ⟨fun r' m' s' H' a b q => g _ m' _ H' a b.mu .non q, fun d m' v H' a b c q => g d m' v H' a b c q, fun _ _ _ _ _ _ q => q, fun _ _ _ _ _ _ q => q⟩
section
variable {X : Cx} {W : WX} {E : ET} {r : Rho} {m : Mu} {K : KT} {S : SpecD} {x : Str} {k j n : Nat} {e : Expr} {es : List Expr} {t : TA} {p pos : Pos}
def tClH (n : Nat) (S : SpecD) (W : WX) (t : TA) : TE := tCallS (spD n S) (WE W) t
theorem pe_clH (c : CalH (Gx.of X) k x n S) (hr : L2H.RoomH j X.A) (hk : k ≤ j) (hc : L2H.HotC X) (tk : L2N.Takes X W) (hg : Gl X x) (ha : PA X (e :: es) t)
    (hdb : (x == ("__debug__" : Str)) = false := by decide) (he : starEach (e :: es) X.env = (false, eval e X.env) :: starEach es X.env := by rfl) (hpl : (backTo pos (starEach es X.env)).any (·.1) = false := by rfl) :
    PE X (.Call (.Name x p) (e :: es) [] pos) (tClH n S W t) := by
  obtain ⟨f, fd, ps, F, b, hm, kp⟩ := c.ex
  exact L2H.pe_callH F (hr.mono hk) hc hg hm kp b (L2N.passAt tk) ha hdb he hpl
theorem we_clH (h : Wa W E t r m fun ds m1 => ds.length = n ∧ S ds m1 K fun x m' => E x r m') : We W E (tClH n S W t) r m K := fun s H Q e z g =>
  h s H _ e z fun ds m1 vs H1 st mu rs q => spD_of q.1 (e.step st mu) (z.step st) (g.step st) rs q.2 fun _ _ q => q
end
end DL
set_option Elab.async false
set_option linter.all false
set_option maxRecDepth 100000
/-! DL4: operators. -/
namespace DL
open PySem PySem.Spec L2
open PyProof.Rows hiding St

/-! ### an own class's operator -/
/-- the class at C takes the special method nm: n values, the promise S -/
structure Opr (G : Gx) (k : Nat) (C : Addr) (nm : Str) (n : Nat) (S : SpecD) : Prop where
  ex : ∃ f, Fnx G k f n S [] ∧ PySem.W.findIn G.K (.ref C) nm = some (some (.ref f)) ∧ PySem.W.isFn G.K (.ref f) = true
  cl : Cls G.K C
  sf : PySem.W.selfFirst G.K C = true
theorem back_of {X : Cx} {pins : List (Addr × Obj)} {σ : L2.St} {Q : VK} {u : Value} {s : Shared} (h : EP X pins σ Q u s) : PySem.W.CmpBack (EP X pins σ Q) u s := by
  obtain ⟨v, H, I, r, q⟩ := id h
  cases u <;> first | exact h | (cases v <;> first | (obtain ⟨t, e⟩ := r; cases e) | cases r)
section
variable {X : Cx} {W : WX} {j : Nat}
def oOwn2 (G : Gx) (j : Nat) (W : WX) (nm : Str) : O2 := fun x y σ H Q => ∃ (a b C dx dy : Addr) (fs gs : List (Str × V)) (k : Nat) (S : SpecD), x = .ref a ∧ y = .ref b ∧ H a = some (.ins C dx fs) ∧ H b = some (.ins C dy gs) ∧ k ≤ j ∧ Opr G k C nm 2 S ∧ spD 2 S [x, y] H Q (WE W σ)
theorem inst_of {pins : List (Addr × Obj)} {σ : L2.St} {H : Hp} {s : Shared} {a C dx : Addr} {fs : List (Str × V)} (I : Inv X pins σ H s) (e : H a = some (.ins C dx fs)) : ∃ od, PySem.W.InstAt s.heap a (PySem.W.instObj C dx) C od := by
  obtain ⟨mA, O, _⟩ := ins_get I.hok e
  obtain ⟨od, J, _⟩ := O.look
  exact ⟨_, J⟩
theorem os_own2 (hr : Room j X.A) (tk : L2N.Takes X W) {op : Operator} : OpS X (binaryOp op) (oOwn2 (Gx.of X) j W (PySem.dunder op.info.2)) := by
  intro pins s σ H x y u v Q I rx ry h
  obtain ⟨a, b, C, dx, dy, fs, gs, k, S, rfl, rfl, ha, hb, hk, O, q⟩ := h
  obtain rfl : u = Value.ref a := rx
  obtain rfl : v = Value.ref b := ry
  obtain ⟨f, ⟨⟨fd, ps, ds, F, bd, d⟩, cs⟩, h1, h2⟩ := O.ex
  obtain ⟨od, J⟩ := inst_of I ha
  obtain ⟨od', J'⟩ := inst_of I hb
  obtain ⟨m, fr⟩ := I.fr
  refine PySem.W.binop_K fr I.ok.mod.kin J J'.type O.sf h1 h2 ?_
  refine wpAny_mono (run_fnSD (E := WE W) (us := [.ref a, .ref b]) (vs := [.ref a, .ref b]) F (hr.mono hk) bd d (L2N.passAt tk σ) I (.cons rfl (.cons rfl .nil)) q) (fun r s' hq => back_of hq) fun _ _ z => z
def oOwn1 (G : Gx) (j : Nat) (W : WX) (nm : Str) : O1 := fun x σ H Q => ∃ (a C dx : Addr) (fs : List (Str × V)) (k : Nat) (S : SpecD), x = .ref a ∧ H a = some (.ins C dx fs) ∧ k ≤ j ∧ Opr G k C nm 1 S ∧ spD 1 S [x] H Q (WE W σ)
theorem us_own (hr : Room j X.A) (tk : L2N.Takes X W) : UnS X (unaryOp .USub) (oOwn1 (Gx.of X) j W "__neg__") := by
  intro pins s σ H x u Q I rx h
  obtain ⟨a, C, dx, fs, k, S, rfl, ha, hk, O, q⟩ := h
  obtain rfl : u = Value.ref a := rx
  obtain ⟨f, ⟨⟨fd, ps, ds, F, bd, d⟩, cs⟩, h1, h2⟩ := O.ex
  obtain ⟨od, J⟩ := inst_of I ha
  obtain ⟨m, fr⟩ := I.fr
  exact PySem.W.ksp_neg fr I.ok.mod.kin J h1 h2 (run_fnSD (E := WE W) (us := [.ref a]) (vs := [.ref a]) F (hr.mono hk) bd d (L2N.passAt tk σ) I (.cons rfl .nil) q)

/-! ### the operators as unions -/
def CDivX (i j : Int) : Prop := j ≠ 0 ∧ (j.natAbs.log2 < 9000 ∨ i.natAbs.log2 ≤ j.natAbs.log2 + 4000)
theorem CDivX.no {i j : Int} (h : CDivX i j) : Builtin.divisionGoesByPylong i j = false := by
  rcases h.2 with q | q
  · exact PyProof.noPylong_of_log2 q
  · have e : (j == 0) = false := by simpa using h.1
    have key : (if i == 0 then 0 else i.natAbs.log2 / 30 + 1) ≤ (if j == 0 then 0 else j.natAbs.log2 / 30 + 1) + 150 := by
      rw [e]
      by_cases hi : (i == 0) = true
      · rw [if_pos hi]
        exact Nat.zero_le _
      · rw [if_neg hi]
        show i.natAbs.log2 / 30 + 1 ≤ j.natAbs.log2 / 30 + 1 + 150
        omega
    show (_ && decide (_ > _)) = false
    rw [decide_eq_false (Nat.not_lt.mpr key), Bool.and_false]
theorem op_fdivX : OpR X (binaryOp .FloorDiv) (rI CDivX fun i j => .int (i.fdiv j)) := opI fun i j _ _ _ _ _ hc q => PyProof.Rows.floordiv_int hc.1 q (.inl hc.no)
def CMulX (i j : Int) : Prop := i.natAbs.log2 + j.natAbs.log2 < 100000000
theorem CMulX.ok {i j : Int} (h : CMulX i j) : IntMulOk i j := by
  have b : ∀ x : Int, Builtin.Int.intBits x ≤ x.natAbs.log2 + 1 := fun x => by
    unfold Builtin.Int.intBits
    split <;> omega
  have h1 := b i
  have h2 := b j
  have h3 : i.natAbs.log2 + j.natAbs.log2 < 100000000 := h
  have e : bitsLine = 134217728 := by decide
  unfold IntMulOk
  intro z
  rw [Bool.and_eq_true] at z
  have z2 := z.2
  unfold Builtin.Int.intTooBig at z2
  have z3 := of_decide_eq_true z2
  rw [e] at z3
  omega
theorem op_mulX : OpR X (binaryOp .Mult) (rI CMulX fun i j => .int (i * j)) := opI fun _ _ _ _ _ _ _ hc q => PyProof.Rows.mul_int q hc.ok
def rStrAdd : R2 := fun x y H Q => ∃ i j, x = .str i ∧ y = .str j ∧ i.length + j.length ≤ sizeLine ∧ Q (.str (i ++ j)) H
/-- two lists joined -/
def rCatR : R2 := fun x y H Q => ∃ l b xs zs, x = .ref l ∧ y = .ref b ∧ Rd H l (.lst xs) ∧ Rd H b (.lst zs) ∧ xs.length + zs.length ≤ sizeLine ∧ ∀ p, H p = none → Q (.ref p) (upd H p (.lst (xs ++ zs)))
theorem op_catR : OpR X (binaryOp .Add) rCatR := by
  intro pins s σ H x y v u Q I rx ry h
  obtain ⟨l, b, xs, zs, rfl, rfl, hH, hB, hz, q⟩ := h
  cases rx
  cases ry
  obtain ⟨z, its, n, r, e⟩ := hH.ok I.hok
  obtain ⟨z2, its2, n2, r2, e2⟩ := hB.ok I.hok
  have hl := r.length
  have hl2 := r2.length
  refine PySem.P.add_list e e2 ?_ (by rw [List.size_toArray, List.size_toArray]; omega)
  have ea : its.toArray ++ its2.toArray = (its ++ its2).toArray := by simp
  rw [ea]
  exact ⟨.ref _, _, I.lnew (t' := s.toks) (r.append r2) (by rw [List.length_append]; omega), rfl, q _ I.fresh⟩
def oAdd (G : Gx) (j : Nat) (W : WX) : O2 := fun x y s H Q => rI0 (fun i j => .int (i + j)) x y H Q ∨ (rStrAdd x y H Q ∨ (rCatR x y H Q ∨ (rCatT G.K x y H Q ∨ oOwn2 G j W "__add__" x y s H Q)))
theorem os_add (hr : Room j X.A) (tk : L2N.Takes X W) : OpS X (binaryOp .Add) (oAdd (Gx.of X) j W) := (OpS.of op_add).or ((OpS.of op_add_str).or ((OpS.of op_catR).or ((OpS.of op_catT).or (os_own2 hr tk))))
def oSub (G : Gx) (j : Nat) (W : WX) : O2 := fun x y s H Q => rI0 (fun i j => .int (i - j)) x y H Q ∨ oOwn2 G j W "__sub__" x y s H Q
theorem os_sub (hr : Room j X.A) (tk : L2N.Takes X W) : OpS X (binaryOp .Sub) (oSub (Gx.of X) j W) := (OpS.of op_sub).or (os_own2 hr tk)
def oMul (G : Gx) (j : Nat) (W : WX) : O2 := fun x y s H Q => rI CMulX (fun i j => .int (i * j)) x y H Q ∨ (rRep x y H Q ∨ oOwn2 G j W "__mul__" x y s H Q)
theorem os_mul (hr : Room j X.A) (tk : L2N.Takes X W) : OpS X (binaryOp .Mult) (oMul (Gx.of X) j W) := (OpS.of op_mulX).or ((OpS.of op_rep).or (os_own2 hr tk))
def oFdiv : O2 := fun x y _ H Q => rI CDivX (fun i j => .int (i.fdiv j)) x y H Q
theorem os_fdiv : OpS X (binaryOp .FloorDiv) oFdiv := OpS.of op_fdivX
def oMod : O2 := fun x y _ H Q => rI (fun _ j => j ≠ 0) (fun i j => .int (i.fmod j)) x y H Q
theorem os_mod : OpS X (binaryOp .Mod) oMod := OpS.of op_modN
def oPow : O2 := fun x y _ H Q => rI CPow (fun i j => .int (i ^ j.toNat)) x y H Q
theorem os_pow : OpS X (binaryOp .Pow) oPow := OpS.of op_pow
def oNeg (G : Gx) (j : Nat) (W : WX) : O1 := fun x s H Q => rU (fun i => .int (-i)) x H Q ∨ oOwn1 G j W "__neg__" x s H Q
theorem us_neg (hr : Room j X.A) (tk : L2N.Takes X W) : UnS X (unaryOp .USub) (oNeg (Gx.of X) j W) := (UnS.of un_neg).or (us_own hr tk)
/-! comparisons -/
def oLt : O2 := fun x y _ H Q => rI0 (fun i j => .bl (decide (i < j))) x y H Q
def oLe : O2 := fun x y _ H Q => rI0 (fun i j => .bl (decide (i ≤ j))) x y H Q
def oGt : O2 := fun x y _ H Q => rI0 (fun i j => .bl (decide (j < i))) x y H Q
def oGe : O2 := fun x y _ H Q => rI0 (fun i j => .bl (decide (j ≤ i))) x y H Q
theorem os_lt : OpS X (compareOp .Lt) oLt := OpS.of op_lt
theorem os_le : OpS X (compareOp .LtE) oLe := OpS.of op_le
theorem os_gt : OpS X (compareOp .Gt) oGt := OpS.of op_gt
theorem os_ge : OpS X (compareOp .GtE) oGe := OpS.of op_ge
def rIsN' : R2 := fun x y H Q => y = .non ∧ Q (.bl (decide (x = .non))) H
def rNotN' : R2 := fun x y H Q => y = .non ∧ Q (.bl (!decide (x = .non))) H
def oIs : O2 := fun x y _ H Q => rIsN' x y H Q ∨ rIsB x y H Q
def oIsNot : O2 := fun x y _ H Q => rNotN' x y H Q ∨ rNotB x y H Q
theorem os_is : OpS X (compareOp .Is) oIs := OpS.or (OpS.of op_isN) (OpS.of op_isBl)
theorem os_isnot : OpS X (compareOp .IsNot) oIsNot := OpS.or (OpS.of op_notN) (OpS.of op_notBl)
def oEq (G : Gx) (j : Nat) (W : WX) : O2 := fun x y _ H Q => rEq x y H Q
def oNe (G : Gx) (j : Nat) (W : WX) : O2 := fun x y _ H Q => rNe x y H Q
theorem os_eq (hr : Room j X.A) (tk : L2N.Takes X W) : OpS X (compareOp .Eq) (oEq (Gx.of X) j W) := OpS.of op_eq
theorem os_ne (hr : Room j X.A) (tk : L2N.Takes X W) : OpS X (compareOp .NotEq) (oNe (Gx.of X) j W) := OpS.of op_ne
/-! .. within an except suite: numbers, texts alone -/
def oEqH : O2 := fun x y _ H Q => rEq x y H Q
def oNeH : O2 := fun x y _ H Q => rNe x y H Q
theorem os_eqH : OpS X (compareOp .Eq) oEqH := OpS.of op_eq
theorem os_neH : OpS X (compareOp .NotEq) oNeH := OpS.of op_ne
def oMulH : O2 := fun x y _ H Q => rI CMulX (fun i j => .int (i * j)) x y H Q
theorem os_mulH : OpS X (binaryOp .Mult) oMulH := OpS.of op_mulX
def oAddH : O2 := fun x y _ H Q => rI0 (fun i j => .int (i + j)) x y H Q
theorem os_addH : OpS X (binaryOp .Add) oAddH := OpS.of op_add
def oSubH : O2 := fun x y _ H Q => rI0 (fun i j => .int (i - j)) x y H Q
theorem os_subH : OpS X (binaryOp .Sub) oSubH := OpS.of op_sub
def oNegH : O1 := fun x _ H Q => rU (fun i => .int (-i)) x H Q
theorem us_negH : UnS X (unaryOp .USub) oNegH := UnS.of un_neg
end

/-! ### what they do to trees -/
section
variable {W : WX} {E : ET} {r : Rho} {m : Mu} {K : KT} {G : Gx} {j : Nat} {i k : Int} {te ta tb tc : TE} {t : TA} {o o' : O2} {o1 : O1} {oc : OC}
theorem w2_val {o : O2} {x y d : D} {vx vy v : V} (hx : ∀ M H w, Rep M H x w → w = vx) (hy : ∀ M H w, Rep M H y w → w = vy) (hd : ∀ M H, Rep M H d v) (ho : ∀ s H (Q : VK), Q v H → o vx vy s H Q) (k : K d m) : W2 W E o x y r m K := fun s H Q a b e z ra rb g => by
  rw [hx _ _ _ ra, hy _ _ _ rb]
  exact ho s H Q (g d m v H (Stp.refl _ _) e.mu (hd _ _) k)
theorem rint {M : Addr → Prop} {H : Hp} {i : Int} {w : V} (h : Rep M H (.int i) w) : w = .int i := by cases h; rfl
theorem rstr {M : Addr → Prop} {H : Hp} {i : Str} {w : V} (h : Rep M H (.str i) w) : w = .str i := by cases h; rfl
theorem rbl {M : Addr → Prop} {H : Hp} {i : Bool} {w : V} (h : Rep M H (.bl i) w) : w = .bl i := by cases h; rfl
theorem rnon {M : Addr → Prop} {H : Hp} {w : V} (h : Rep M H .non w) : w = .non := by cases h; rfl
theorem w2_add (h : K (.int (i + k)) m) : W2 W E (oAdd G j W) (.int i) (.int k) r m K := w2_val (fun _ _ _ => rint) (fun _ _ _ => rint) (fun _ _ => .int _) (fun _ _ _ q => .inl ⟨i, k, rfl, rfl, q⟩) h
theorem w2_sub (h : K (.int (i - k)) m) : W2 W E (oSub G j W) (.int i) (.int k) r m K := w2_val (fun _ _ _ => rint) (fun _ _ _ => rint) (fun _ _ => .int _) (fun _ _ _ q => .inl ⟨i, k, rfl, rfl, q⟩) h
theorem w2_mul (h : CMulX i k ∧ K (.int (i * k)) m) : W2 W E (oMul G j W) (.int i) (.int k) r m K := w2_val (fun _ _ _ => rint) (fun _ _ _ => rint) (fun _ _ => .int _) (fun _ _ _ q => .inl ⟨i, k, rfl, rfl, h.1, q⟩) h.2
theorem w2_fdiv (h : CDivX i k ∧ K (.int (i.fdiv k)) m) : W2 W E oFdiv (.int i) (.int k) r m K := w2_val (fun _ _ _ => rint) (fun _ _ _ => rint) (fun _ _ => .int _) (fun _ _ _ q => ⟨i, k, rfl, rfl, h.1, q⟩) h.2
theorem w2_mod (h : k ≠ 0 ∧ K (.int (i.fmod k)) m) : W2 W E oMod (.int i) (.int k) r m K := w2_val (fun _ _ _ => rint) (fun _ _ _ => rint) (fun _ _ => .int _) (fun _ _ _ q => ⟨i, k, rfl, rfl, h.1, q⟩) h.2
theorem w2_pow (h : CPow i k ∧ K (.int (i ^ k.toNat)) m) : W2 W E oPow (.int i) (.int k) r m K := w2_val (fun _ _ _ => rint) (fun _ _ _ => rint) (fun _ _ => .int _) (fun _ _ _ q => ⟨i, k, rfl, rfl, h.1, q⟩) h.2
theorem w2_lt (h : K (.bl (decide (i < k))) m) : W2 W E oLt (.int i) (.int k) r m K := w2_val (fun _ _ _ => rint) (fun _ _ _ => rint) (fun _ _ => .bl _) (fun _ _ _ q => ⟨i, k, rfl, rfl, q⟩) h
theorem w2_le (h : K (.bl (decide (i ≤ k))) m) : W2 W E oLe (.int i) (.int k) r m K := w2_val (fun _ _ _ => rint) (fun _ _ _ => rint) (fun _ _ => .bl _) (fun _ _ _ q => ⟨i, k, rfl, rfl, q⟩) h
theorem w2_gt (h : K (.bl (decide (k < i))) m) : W2 W E oGt (.int i) (.int k) r m K := w2_val (fun _ _ _ => rint) (fun _ _ _ => rint) (fun _ _ => .bl _) (fun _ _ _ q => ⟨i, k, rfl, rfl, q⟩) h
theorem w2_ge (h : K (.bl (decide (k ≤ i))) m) : W2 W E oGe (.int i) (.int k) r m K := w2_val (fun _ _ _ => rint) (fun _ _ _ => rint) (fun _ _ => .bl _) (fun _ _ _ q => ⟨i, k, rfl, rfl, q⟩) h
theorem w2_eqI (h : K (.bl (decide (i = k))) m) : W2 W E (oEq G j W) (.int i) (.int k) r m K := w2_val (fun _ _ _ => rint) (fun _ _ _ => rint) (fun _ _ => .bl _) (fun _ _ _ q => ⟨rfl, by rw [dec_int, ← Bool.beq_eq_decide_eq] at *; exact q⟩) h
theorem w2_neI (h : K (.bl (!decide (i = k))) m) : W2 W E (oNe G j W) (.int i) (.int k) r m K := w2_val (fun _ _ _ => rint) (fun _ _ _ => rint) (fun _ _ => .bl _) (fun _ _ _ q => ⟨rfl, by rw [dec_int, ← Bool.beq_eq_decide_eq] at *; exact q⟩) h
theorem w2_eqIH (h : K (.bl (decide (i = k))) m) : W2 W E oEqH (.int i) (.int k) r m K := w2_val (fun _ _ _ => rint) (fun _ _ _ => rint) (fun _ _ => .bl _) (fun _ _ _ q => ⟨rfl, by rw [dec_int, ← Bool.beq_eq_decide_eq] at *; exact q⟩) h
theorem w2_neIH (h : K (.bl (!decide (i = k))) m) : W2 W E oNeH (.int i) (.int k) r m K := w2_val (fun _ _ _ => rint) (fun _ _ _ => rint) (fun _ _ => .bl _) (fun _ _ _ q => ⟨rfl, by rw [dec_int, ← Bool.beq_eq_decide_eq] at *; exact q⟩) h
theorem w2_mulH (h : CMulX i k ∧ K (.int (i * k)) m) : W2 W E oMulH (.int i) (.int k) r m K := w2_val (fun _ _ _ => rint) (fun _ _ _ => rint) (fun _ _ => .int _) (fun _ _ _ q => ⟨i, k, rfl, rfl, h.1, q⟩) h.2
theorem w2_addH (h : K (.int (i + k)) m) : W2 W E oAddH (.int i) (.int k) r m K := w2_val (fun _ _ _ => rint) (fun _ _ _ => rint) (fun _ _ => .int _) (fun _ _ _ q => ⟨i, k, rfl, rfl, q⟩) h
theorem w2_subH (h : K (.int (i - k)) m) : W2 W E oSubH (.int i) (.int k) r m K := w2_val (fun _ _ _ => rint) (fun _ _ _ => rint) (fun _ _ => .int _) (fun _ _ _ q => ⟨i, k, rfl, rfl, q⟩) h
theorem w1_negH (h : K (.int (-i)) m) : W1 W E oNegH (.int i) r m K := fun s H Q v e z rv g => by
  cases rv
  exact ⟨i, rfl, g _ m _ H (Stp.refl _ _) e.mu (.int _) h⟩
def isNon : D → Bool
  | .non => true
  | _ => false
theorem rep_non {M : Addr → Prop} {H : Hp} {d : D} {v : V} (h : Rep M H d v) : decide (v = V.non) = isNon d := by
  cases h <;> rfl
theorem w2_isN {d : D} (h : K (.bl (isNon d)) m) : W2 W E oIs d .non r m K := fun s H Q a b e z ra rb g => by
  cases rb
  exact .inl ⟨rfl, g _ m _ H (Stp.refl _ _) e.mu (by rw [rep_non ra]; exact .bl _) h⟩
theorem w2_notN {d : D} (h : K (.bl (!isNon d)) m) : W2 W E oIsNot d .non r m K := fun s H Q a b e z ra rb g => by
  cases rb
  exact .inl ⟨rfl, g _ m _ H (Stp.refl _ _) e.mu (by rw [rep_non ra]; exact .bl _) h⟩
theorem w2_isB {a b : Bool} (h : K (.bl (decide (a = b))) m) : W2 W E oIs (.bl a) (.bl b) r m K := w2_val (fun _ _ _ => rbl) (fun _ _ _ => rbl) (fun _ _ => .bl _) (fun _ _ _ q => .inr ⟨a, b, rfl, rfl, q⟩) h
theorem w2_notB {a b : Bool} (h : K (.bl (!decide (a = b))) m) : W2 W E oIsNot (.bl a) (.bl b) r m K := w2_val (fun _ _ _ => rbl) (fun _ _ _ => rbl) (fun _ _ => .bl _) (fun _ _ _ q => .inr ⟨a, b, rfl, rfl, q⟩) h
theorem w1_neg (h : K (.int (-i)) m) : W1 W E (oNeg G j W) (.int i) r m K := fun s H Q v e z rv g => by
  cases rv
  exact .inl ⟨i, rfl, g _ m _ H (Stp.refl _ _) e.mu (.int _) h⟩
/-- the fields of an instance, fixed or mutable -/
inductive FldD : D → Mu → Addr → List Str → List D → Prop
  | fixed {m : Mu} {C : Addr} {ns : List Str} {ds : List D} : FldD (.ins C ns ds) m C ns ds
  | mutb {m : Mu} {C a : Addr} {ns : List Str} {ds : List D} (h : At m a (.ins C ns ds)) : FldD (.ref a) m C ns ds
theorem FldD.look {d : D} {m : Mu} {C : Addr} {ns : List Str} {ds : List D} {H : Hp} {v : V} (i : FldD d m C ns ds) (mu : MutR m H) (rp : Rep (dom m) H d v) : ∃ a dx gs, v = .ref a ∧ H a = some (.ins C dx gs) ∧ RepF (dom m) H ns ds gs := by
  cases i with
  | fixed =>
    cases rp with
    | ins mm h rf => exact ⟨_, _, _, rfl, h, rf⟩
  | mutb h =>
    cases rp
    have q := h.rep mu
    cases q with
    | ins h rf => exact ⟨_, _, _, rfl, h, rf⟩
theorem w2_own {d d' : D} {C : Addr} {ns ns' : List Str} {ds ds' : List D} {nm : Str} {k : Nat} {S : SpecD} (O : Opr G k C nm 2 S) (hk : k ≤ j) (i : FldD d m C ns ds) (i' : FldD d' m C ns' ds')
    (h : S [d, d'] m K fun x m' => E x r m') : W2 W E (oOwn2 G j W nm) d d' r m K := fun s H Q a b e z ra rb g => by
  obtain ⟨p, dx, gs, rfl, hp, _⟩ := i.look e.mu ra
  obtain ⟨p', dx', gs', rfl, hp', _⟩ := i'.look e.mu rb
  exact ⟨p, p', C, dx, dx', gs, gs', k, S, rfl, rfl, hp, hp', hk, O, spD_of rfl e z g (.cons ra (.cons rb .nil)) h fun _ _ q => q⟩
theorem w1_own {d : D} {C : Addr} {ns : List Str} {ds : List D} {nm : Str} {k : Nat} {S : SpecD} (O : Opr G k C nm 1 S) (hk : k ≤ j) (i : FldD d m C ns ds)
    (h : S [d] m K fun x m' => E x r m') : W1 W E (oOwn1 G j W nm) d r m K := fun s H Q a e z ra g => by
  obtain ⟨p, dx, gs, rfl, hp, _⟩ := i.look e.mu ra
  exact ⟨p, C, dx, gs, k, S, rfl, hp, hk, O, spD_of rfl e z g (.cons ra .nil) h fun _ _ q => q⟩
end
end DL
set_option Elab.async false
set_option linter.all false
set_option maxRecDepth 100000
/-! DL5: expressions, tests, statements, loops over trees. -/
namespace DL
open PySem PySem.Spec L2
open PyProof.Rows hiding St

section
variable {W : WX} {E : ET} {r : Rho} {m : Mu} {K : KT} {G : Gx} {j : Nat} {te ta tb tc : TE} {t u : TT} {a : TA} {o o' : O2} {o1 : O1} {oc : OC} {KB : Bool → Mu → Prop} {KA : List D → Mu → Prop}
/-! ### arguments, displays -/
theorem wa_nil (h : KA [] m) : Wa W E tNil r m KA := fun s H Q e z g => g [] m [] H (Stp.refl _ _) e.mu .nil h
theorem wa_cons (h : We W E te r m fun d m1 => Wa W E a r m1 fun ds m2 => KA (d :: ds) m2) : Wa W E (tCons te a) r m KA := fun s H Q e z g =>
  h s H _ e z fun d m1 v H1 s1 mu1 r1 q1 => q1 s H1 _ (e.step s1 mu1) (z.step s1) fun ds m2 vs H2 s2 mu2 r2 q2 => g _ m2 _ H2 (s1.trans s2) mu2 (.cons (r1.mono s2) r2) q2
theorem size_of {n : Nat} (h : Nat.ble n 1000 = true) : n ≤ sizeLine := Nat.le_trans (Nat.le_of_ble_eq_true h) (by decide)
theorem we_tup (h : Wa W E a r m fun ds m1 => Nat.ble ds.length 1000 = true ∧ K (.tup ds) m1) : We W E (tTup a) r m K := fun s H Q e z g =>
  h s H _ e z fun ds m1 vs H1 s1 mu1 r1 q1 => ⟨by rw [← r1.length]; exact size_of q1.1, fun p hp =>
    g _ m1 _ _ (s1.trans (Stp.new hp)) (mu1.new hp) (.tup (fun z => by obtain ⟨u, hu⟩ := mu1.there z; rw [hp] at hu; cases hu) upd_same (r1.mono (Stp.new hp))) q1.2⟩
theorem we_lst (h : Wa W E a r m fun ds m1 => Nat.ble ds.length 1000 = true ∧ K (.lst ds) m1) : We W E (tLst a) r m K := fun s H Q e z g =>
  h s H _ e z fun ds m1 vs H1 s1 mu1 r1 q1 => ⟨by rw [← r1.length]; exact size_of q1.1, fun p hp =>
    g _ m1 _ _ (s1.trans (Stp.new hp)) (mu1.new hp) (.lst (fun z => by obtain ⟨u, hu⟩ := mu1.there z; rw [hp] at hu; cases hu) (.inl upd_same) (r1.mono (Stp.new hp))) q1.2⟩
/-- a list that will be changed -/
theorem we_lstM (h : Wa W E a r m fun ds m1 => Nat.ble ds.length 1000 = true ∧ ∀ p, ¬ dom m1 p → K (.ref p) ((p, .lst ds) :: m1)) : We W E (tLst a) r m K := fun s H Q e z g =>
  h s H _ e z fun ds m1 vs H1 s1 mu1 r1 q1 => ⟨by rw [← r1.length]; exact size_of q1.1, fun p hp =>
    g _ _ _ _ (s1.trans (Stp.newM (x := .lst ds) hp)) (mu1.newM hp (.lst upd_same (r1.mono (Stp.newM hp)))) (.ref p) (q1.2 p fun z => by obtain ⟨u, hu⟩ := mu1.there z; rw [hp] at hu; cases hu)⟩

/-! ### fields -/
theorem we_fld {f : Str} (h : We W E te r m fun d m1 => ∃ C ns ds x, FldD d m1 C ns ds ∧ Cls G.K C ∧ NoAttr G.K C f ∧ fix f ns ds = some x ∧ K x m1) : We W E (tFld G.K te f) r m K := fun s H Q e z g =>
  h s H _ e z fun d m1 v H1 s1 mu1 r1 q => by
    obtain ⟨C, ns, ds, x, i, c, n, hf, k⟩ := q
    obtain ⟨p, dx, gs, rfl, hp, rf⟩ := i.look mu1 r1
    obtain ⟨y, h1, h2⟩ := rf.look hf
    exact ⟨p, C, dx, gs, y, rfl, hp, c, n, h1, g x m1 y H1 s1 mu1 h2 k⟩

/-! ### subscripts -/
theorem atI_reps {M : Addr → Prop} {H : Hp} {ds : List D} {vs : List V} {i : Int} {d : D} (h : Reps M H ds vs) (e : atI ds i = some d) : ∃ v, atI vs i = some v ∧ Rep M H d v := by
  unfold atI at *
  rw [h.length] at e
  cases q : ixN vs.length i with
  | none => rw [q] at e; cases e
  | some k =>
    rw [q] at e
    exact h.get e
abbrev oIx (G : Gx) : O2 := fun x y _ H Q => rIx G.K x y H Q
theorem rd_l {K : PySem.W.Frag} {H : Hp} {a : Addr} {vs : List V} (h : Rd H a (.lst vs)) : SqL K H a vs := .inl h
theorem rd_t {K : PySem.W.Frag} {H : Hp} {a : Addr} {vs : List V} (h : H a = some (.tup vs)) : SqT K H a vs := .inl (.inl h)
theorem w2_ixT {ds : List D} {i : Int} {d : D} (h : atI ds i = some d ∧ K d m) : W2 W E (oIx G) (.tup ds) (.int i) r m K := fun s H Q x y e z rx ry g => by
  cases ry
  cases rx with
  | tup mm hh rs =>
    obtain ⟨v, h1, h2⟩ := atI_reps rs h.1
    exact .inr (.inl ⟨_, _, i, v, rfl, rfl, rd_t hh, h1, g d m v H (Stp.refl _ _) e.mu h2 h.2⟩)
theorem w2_ixL {ds : List D} {i : Int} {d : D} (h : atI ds i = some d ∧ K d m) : W2 W E (oIx G) (.lst ds) (.int i) r m K := fun s H Q x y e z rx ry g => by
  cases ry
  cases rx with
  | lst mm hh rs =>
    obtain ⟨v, h1, h2⟩ := atI_reps rs h.1
    exact .inl ⟨_, _, i, v, rfl, rfl, rd_l hh, h1, g d m v H (Stp.refl _ _) e.mu h2 h.2⟩
theorem w2_ixM {p : Addr} {ds : List D} {i : Int} {d : D} (hp : At m p (.lst ds)) (h : atI ds i = some d ∧ K d m) : W2 W E (oIx G) (.ref p) (.int i) r m K := fun s H Q x y e z rx ry g => by
  cases ry
  cases rx
  have q := hp.rep e.mu
  cases q with
  | lst hh rs =>
    obtain ⟨v, h1, h2⟩ := atI_reps rs h.1
    exact .inl ⟨_, _, i, v, rfl, rfl, SqL.of hh, h1, g d m v H (Stp.refl _ _) e.mu h2 h.2⟩
theorem we_op {rr : R2} (h : We W E ta r m fun x m1 => We W E tb r m1 fun y m2 => W2 W E (fun x y _ H Q => rr x y H Q) x y r m2 K) : We W E (tOp rr ta tb) r m K := we_2 h

/-! ### chains, truth -/
theorem we_3 (h : We W E ta r m fun x m1 => We W E tb r m1 fun y m2 => W2 W E o x y r m2 fun d m3 => ∃ b, d = .bl b ∧ (b = true → We W E tc r m3 fun w m4 => W2 W E o' y w r m4 K) ∧ (b = false → K (.bl false) m3)) : We W E (t3 o o' ta tb tc) r m K := fun s H Q e z g =>
  h s H _ e z fun x m1 v H1 s1 mu1 r1 h1 => h1 s H1 _ (e.step s1 mu1) (z.step s1) fun y m2 w H2 s2 mu2 r2 h2 => by
    have e2 := (e.step s1 mu1).step s2 mu2
    have z2 := (z.step s1).step s2
    refine h2 s H2 _ v w e2 z2 (r1.mono s2) r2 fun d m3 c H3 s3 mu3 r3 h3 => ?_
    obtain ⟨b, rfl, ht, hf⟩ := h3
    cases r3
    refine ⟨b, rfl, ?_⟩
    cases b with
    | true =>
      rw [if_pos rfl]
      exact ht rfl s H3 _ (e2.step s3 mu3) (z2.step s3) fun w' m4 cv H4 s4 mu4 r4 h4 =>
        h4 s H4 Q w cv ((e2.step s3 mu3).step s4 mu4) ((z2.step s3).step s4) ((r2.mono s3).mono s4) r4 ((((g.step s1).step s2).step s3).step s4)
    | false =>
      rw [if_neg Bool.false_ne_true]
      exact g _ m3 _ H3 ((s1.trans s2).trans s3) mu3 (.bl _) (hf rfl)
theorem wt_test (h : We W E te r m fun d m1 => ∃ b, d = .bl b ∧ KB b m1) : Wt W E (tTest te) r m KB := fun s H Q e z g =>
  h s H _ e z fun d m1 v H1 s1 mu1 r1 q => by
    obtain ⟨b, rfl, k⟩ := q
    cases r1
    exact ⟨b, rfl, g b m1 H1 s1 mu1 k⟩
theorem wt_B (h : We W E te r m fun d m1 => ∃ b, d = .bl b ∧ KB b m1) : Wt W E (tB te) r m KB := wt_test h
/-- the truth of a tree -/
inductive TruD : D → Mu → Bool → Prop
  | non {m : Mu} : TruD .non m false
  | bl {m : Mu} {b : Bool} : TruD (.bl b) m b
  | int {m : Mu} {i : Int} : TruD (.int i) m (i != 0)
  | tup {m : Mu} {xs : List D} : TruD (.tup xs) m (!xs.isEmpty)
  | lst {m : Mu} {xs : List D} : TruD (.lst xs) m (!xs.isEmpty)
  | mutb {m : Mu} {p : Addr} {xs : List D} (h : At m p (.lst xs)) : TruD (.ref p) m (!xs.isEmpty)
theorem reps_empty {M : Addr → Prop} {H : Hp} {ds : List D} {vs : List V} (h : Reps M H ds vs) : ds.isEmpty = vs.isEmpty := by cases h <;> rfl
theorem TruD.ok {d : D} {b : Bool} {H : Hp} {v : V} (h : TruD d m b) (mu : MutR m H) (rp : Rep (dom m) H d v) : TruV G.K v H b := by
  cases h with
  | non => cases rp; rfl
  | bl => cases rp; rfl
  | int => cases rp; rfl
  | tup =>
    cases rp with
    | tup mm hh rs => exact .inr (.inl ⟨_, rd_t hh, by rw [reps_empty rs]⟩)
  | lst =>
    cases rp with
    | lst mm hh rs => exact .inl ⟨_, rd_l hh, by rw [reps_empty rs]⟩
  | mutb h =>
    cases rp
    have q := h.rep mu
    cases q with
    | lst hh rs => exact .inl ⟨_, SqL.of hh, by rw [reps_empty rs]⟩
theorem wt_tr (h : We W E te r m fun d m1 => ∃ b, TruD d m1 b ∧ KB b m1) : Wt W E (tTr G.K te) r m KB := fun s H Q e z g =>
  h s H _ e z fun d m1 v H1 s1 mu1 r1 q => by
    obtain ⟨b, t, k⟩ := q
    exact ⟨b, t.ok mu1 r1, g b m1 H1 s1 mu1 k⟩
theorem wt_and (h : Wt W E t r m fun b m1 => (b = true → Wt W E u r m1 KB) ∧ (b = false → KB false m1)) : Wt W E (tAnd t u) r m KB := fun s H Q e z g =>
  h s H _ e z fun b m1 H1 s1 mu1 q => by
    cases b with
    | true => exact q.1 rfl s H1 Q (e.step s1 mu1) (z.step s1) fun b m2 H2 a c k => g b m2 H2 (s1.trans a) c k
    | false => exact g false m1 H1 s1 mu1 (q.2 rfl)
theorem wt_or (h : Wt W E t r m fun b m1 => (b = true → KB true m1) ∧ (b = false → Wt W E u r m1 KB)) : Wt W E (tOr t u) r m KB := fun s H Q e z g =>
  h s H _ e z fun b m1 H1 s1 mu1 q => by
    cases b with
    | true => exact g true m1 H1 s1 mu1 (q.1 rfl)
    | false => exact q.2 rfl s H1 Q (e.step s1 mu1) (z.step s1) fun b m2 H2 a c k => g b m2 H2 (s1.trans a) c k
theorem wt_not (h : Wt W E t r m fun b m1 => KB (!b) m1) : Wt W E (tNot t) r m KB := fun s H Q e z g =>
  h s H _ e z fun b m1 H1 s1 mu1 q => g (!b) m1 H1 s1 mu1 q
theorem we_andV (h : We W E ta r m fun d m1 => ∃ b, d = .bl b ∧ (b = true → We W E tb r m1 K) ∧ (b = false → K (.bl false) m1)) : We W E (tAndV ta tb) r m K := fun s H Q e z g =>
  h s H _ e z fun d m1 v H1 s1 mu1 r1 q => by
    obtain ⟨b, rfl, ht, hf⟩ := q
    cases r1
    refine ⟨b, rfl, ?_⟩
    cases b with
    | true =>
      rw [if_pos rfl]
      exact ht rfl s H1 Q (e.step s1 mu1) (z.step s1) (g.step s1)
    | false =>
      rw [if_neg Bool.false_ne_true]
      exact g _ m1 _ H1 s1 mu1 (.bl _) (hf rfl)
theorem we_orV (h : We W E ta r m fun d m1 => ∃ b, d = .bl b ∧ (b = true → K (.bl true) m1) ∧ (b = false → We W E tb r m1 K)) : We W E (tOrV ta tb) r m K := fun s H Q e z g =>
  h s H _ e z fun d m1 v H1 s1 mu1 r1 q => by
    obtain ⟨b, rfl, ht, hf⟩ := q
    cases r1
    refine ⟨b, rfl, ?_⟩
    cases b with
    | false =>
      rw [if_neg Bool.false_ne_true]
      exact hf rfl s H1 Q (e.step s1 mu1) (z.step s1) (g.step s1)
    | true =>
      rw [if_pos rfl]
      exact g _ m1 _ H1 s1 mu1 (.bl _) (ht rfl)
theorem we_notV (h : We W E te r m fun d m1 => ∃ b, d = .bl b ∧ K (.bl (!b)) m1) : We W E (tNotV te) r m K := fun s H Q e z g =>
  h s H _ e z fun d m1 v H1 s1 mu1 r1 q => by
    obtain ⟨b, rfl, k⟩ := q
    cases r1
    exact ⟨b, rfl, g _ m1 _ H1 s1 mu1 (.bl _) k⟩
theorem we_ifx (h : Wt W E t r m fun b m1 => (b = true → We W E ta r m1 K) ∧ (b = false → We W E tb r m1 K)) : We W E (tIf t ta tb) r m K := fun s H Q e z g =>
  h s H _ e z fun b m1 H1 s1 mu1 q => by
    cases b with
    | true => exact q.1 rfl s H1 Q (e.step s1 mu1) (z.step s1) (g.step s1)
    | false => exact q.2 rfl s H1 Q (e.step s1 mu1) (z.step s1) (g.step s1)

/-! ### calls of built-ins -/
def Wc (W : WX) (E : ET) (oc : OC) (ds : List D) (r : Rho) (m : Mu) (K : KT) : Prop := ∀ s H Q vs, EnvR r m s H → Rz W E m H → Reps (dom m) H ds vs → Go m H K Q → oc vs s H Q
theorem we_c2 (h : Wa W E a r m fun ds m1 => Wc W E oc ds r m1 K) : We W E (tC2 oc a) r m K := fun s H Q e z g =>
  h s H _ e z fun ds m1 vs H1 s1 mu1 r1 q => q s H1 Q vs (e.step s1 mu1) (z.step s1) r1 (g.step s1)
end

/-! ### statements -/
section
variable {W : WX} {E : ET} {r : Rho} {m : Mu} {P : DEnds} {G : Gx} {te to : TE} {tt : TT} {ts tu : TS} {i : Nat}
theorem ws_next (h : P.nx r m) : Ws W E tNext r m P := fun s H De e z g => g.nx r m s H (Stp.refl _ _) e h
theorem ws_brk (h : P.bk r m) : Ws W E tBreak r m P := fun s H De e z g => g.bk r m s H (Stp.refl _ _) e h
theorem ws_cont (h : P.ct r m) : Ws W E tCont r m P := fun s H De e z g => g.ct r m s H (Stp.refl _ _) e h
theorem ws_seq (h : Ws W E ts r m { P with nx := fun r' m' => Ws W E tu r' m' P }) : Ws W E (tSeq ts tu) r m P := fun s H De e z g =>
  h s H _ e z ⟨fun r' m' s' H' a b q => q s' H' De b (z.step a) (g.step a), g.rt, g.bk, g.ct⟩
theorem ws_ret (h : We W E te r m P.rt) : Ws W E (tRet te) r m P := fun s H De e z g => h s H _ e z fun d m' v H' a b c k => g.rt d m' v H' a b c k
theorem ws_retN (h : P.rt .non m) : Ws W E tRetN r m P := fun s H De e z g => g.rt .non m .non H (Stp.refl _ _) e.mu .non h
theorem ws_drop (h : We W E te r m fun _ m' => P.nx r m') : Ws W E (tDrop te) r m P := fun s H De e z g => h s H _ e z fun d m' v H' a b c k => g.nx r m' s H' a (e.step a b) k
theorem ws_if (h : Wt W E tt r m fun b m1 => (b = true → Ws W E ts r m1 P) ∧ (b = false → Ws W E tu r m1 P)) : Ws W E (tIfS tt ts tu) r m P := fun s H De e z g =>
  h s H _ e z fun b m1 H1 s1 mu1 q => by
    cases b with
    | true => exact q.1 rfl s H1 De (e.step s1 mu1) (z.step s1) (g.step s1)
    | false => exact q.2 rfl s H1 De (e.step s1 mu1) (z.step s1) (g.step s1)
/-- targets -/
def Wg (W : WX) (E : ET) (g : TG) (d : D) (r : Rho) (m : Mu) (N : Rho → Mu → Prop) : Prop := ∀ s H v Q, EnvR r m s H → Rz W E m H → Rep (dom m) H d v →
  (∀ r' m' s' H', Stp (dom m) H (dom m') H' → EnvR r' m' s' H' → N r' m' → Q s' H') → g v s H Q
def Wgs (W : WX) (E : ET) (g : TGs) (ds : List D) (r : Rho) (m : Mu) (N : Rho → Mu → Prop) : Prop := ∀ s H vs Q, EnvR r m s H → Rz W E m H → Reps (dom m) H ds vs →
  (∀ r' m' s' H', Stp (dom m) H (dom m') H' → EnvR r' m' s' H' → N r' m' → Q s' H') → g vs s H Q
variable {N : Rho → Mu → Prop}
theorem EnvR.put {s : L2.St} {H : Hp} {d : D} {v : V} (e : EnvR r m s H) (rd : Rep (dom m) H d v) : EnvR (r.set i (some d)) m (s.set i (some v)) H := ⟨e.env.set (.some rd) i, e.mu⟩
theorem wg_name {d : D} (h : N (r.set i (some d)) m) : Wg W E (gName i) d r m N := fun s H v Q e z rd g => g _ m _ H (Stp.refl _ _) (e.put rd) h
theorem wgs_nil (h : N r m) : Wgs W E gNil [] r m N := fun s H vs Q e z rd g => by
  cases rd
  exact ⟨rfl, g r m s H (Stp.refl _ _) e h⟩
theorem wgs_cons {g1 : TG} {gs : TGs} {d : D} {ds : List D} (h : Wg W E g1 d r m fun r' m' => Wgs W E gs ds r' m' N) : Wgs W E (gCons g1 gs) (d :: ds) r m N := fun s H vs Q e z rd g => by
  cases rd with
  | cons r1 rt =>
    exact ⟨_, _, rfl, h s H _ _ e z r1 fun r' m' s' H' a b q => q s' H' _ Q b (z.step a) (rt.mono a) fun r2 m2 s2 H2 a2 b2 q2 => g r2 m2 s2 H2 (a.trans a2) b2 q2⟩
theorem wg_tup {gs : TGs} {n : Nat} {ds : List D} (hn : ds.length = n) (h : Wgs W E gs ds r m N) : Wg W E (gTup G.K n gs) (.tup ds) r m N := fun s H v Q e z rd g => by
  cases rd with
  | tup mm hh rs => exact ⟨_, _, rfl, rd_t hh, by rw [← rs.length, hn], h s H _ Q e z rs g⟩
theorem ixN_reps {n k : Nat} {i : Int} (h : ixN n i = some k) : k < n := by
  unfold ixN at h
  split at h
  · split at h
    · cases h; omega
    · cases h
  · split at h
    · cases h; omega
    · cases h
theorem wg_subM {ti : TE} {d : D} (h : We W E to r m fun o m1 => We W E ti r m1 fun i m2 => ∃ p xs k j m3, o = .ref p ∧ i = .int k ∧ At m2 p (.lst xs) ∧ ixN xs.length k = some j ∧ Put m2 p (.lst (xs.set j d)) m3 ∧ N r m3) : Wg W E (gSub to ti rSetL) d r m N := fun s H v Q e z rd g =>
  h s H _ e z fun o m1 vo H1 s1 mu1 r1 q1 => q1 s H1 _ (e.step s1 mu1) (z.step s1) fun i m2 vi H2 s2 mu2 r2 q2 => by
    obtain ⟨p, xs, k, j, m3, rfl, rfl, ha, hj, hp, hn⟩ := q2
    cases r1
    cases r2
    have q := ha.rep mu2
    cases q with
    | lst hh rs =>
      have rd2 := (rd.mono s1).mono s2
      refine ⟨p, _, k, j, rfl, rfl, hh, by rw [← rs.length]; exact hj, ?_⟩
      have st : ∀ o, Stp (dom m2) H2 (dom m3) (upd H2 p o) := fun o => hp.stp
      exact g r m3 s _ ((s1.trans s2).trans (st _)) (((e.step s1 mu1).step s2 mu2).step (st _) (hp.mut mu2 (.lst upd_same ((rs.set rd2 j).mono (st _))))) hn
theorem ws_asg {g : TG} (h : We W E te r m fun d m1 => Wg W E g d r m1 P.nx) : Ws W E (tAsg te g) r m P := fun s H De e z gg =>
  h s H _ e z fun d m1 v H1 s1 mu1 r1 q => q s H1 v De.nx (e.step s1 mu1) (z.step s1) r1 fun r' m' s' H' a b k => gg.nx r' m' s' H' (s1.trans a) b k
theorem ws_par {j : Nat} {a : TA} (h : Wa W E a r m fun ds m1 => ∃ x y, ds = [x, y] ∧ P.nx ((r.set i (some x)).set j (some y)) m1) : Ws W E (tPar i j a) r m P := fun s H De e z g =>
  h s H _ e z fun ds m1 vs H1 s1 mu1 r1 q => by
    obtain ⟨x, y, rfl, k⟩ := q
    cases r1 with
    | cons ra t =>
      cases t with
      | cons rb t =>
        cases t
        exact ⟨_, _, rfl, g.nx _ m1 _ H1 s1 (((e.step s1 mu1).put ra).put rb) k⟩
theorem ws_par3 {j l : Nat} {a : TA} (h : Wa W E a r m fun ds m1 => ∃ x y w, ds = [x, y, w] ∧ P.nx (((r.set i (some x)).set j (some y)).set l (some w)) m1) : Ws W E (tPar3 i j l a) r m P := fun s H De e z g =>
  h s H _ e z fun ds m1 vs H1 s1 mu1 r1 q => by
    obtain ⟨x, y, w, rfl, k⟩ := q
    cases r1 with
    | cons ra t =>
      cases t with
      | cons rb t =>
        cases t with
        | cons rc t =>
          cases t
          exact ⟨_, _, _, rfl, g.nx _ m1 _ H1 s1 ((((e.step s1 mu1).put ra).put rb).put rc) k⟩
/-- self.f = e, a new field -/
theorem putF_new {f : Str} {y : V} : ∀ {fs : List (Str × V)}, f ∉ fs.map (·.1) → putF f y fs = fs ++ [(f, y)]
  | [], _ => rfl
  | (g, v) :: fs, h => by
    have ne : ¬ g = f := fun e => h (by simp [e])
    show (if g = f then _ else _) = _
    rw [if_neg ne, putF_new (fun z => h (by simp [z]))]
    rfl
theorem RepF.snoc {M : Addr → Prop} {H : Hp} {f : Str} {x : D} {y : V} (q : Rep M H x y) : ∀ {n : List Str} {d : List D} {v : List (Str × V)}, RepF M H n d v → RepF M H (n ++ [f]) (d ++ [x]) (v ++ [(f, y)])
  | _, _, _, .nil => .cons q .nil
  | _, _, _, .cons r t => .cons r (RepF.snoc q t)
theorem RepF.lens {M : Addr → Prop} {H : Hp} {n : List Str} {d : List D} {v : List (Str × V)} (h : RepF M H n d v) : v.length = n.length := by rw [← h.names, List.length_map]
theorem ws_fldN {f : Str} (h : We W E te r m fun d m1 => We W E to r m1 fun o m2 => ∃ p C ns ds m3, o = .ref p ∧ At m2 p (.ins C ns ds) ∧ Cls G.K C ∧ NoAttr G.K C f ∧ ns.contains f = false ∧ Nat.ble ns.length 900 = true ∧ Put m2 p (.ins C (ns ++ [f]) (ds ++ [d])) m3 ∧ P.nx r m3) : Ws W E (sFld G.K to te f) r m P := fun s H De e z g =>
  h s H _ e z fun d m1 v H1 s1 mu1 r1 q1 => q1 s H1 _ (e.step s1 mu1) (z.step s1) fun o m2 vo H2 s2 mu2 r2 q2 => by
    obtain ⟨p, C, ns, ds, m3, rfl, ha, hc, hn, hf, hl, hp, k⟩ := q2
    cases r2
    have q := ha.rep mu2
    cases q with
    | ins hh rf =>
      have st : ∀ o, Stp (dom m2) H2 (dom m3) (upd H2 p o) := fun o => hp.stp
      have nf : f ∉ List.map (fun q : Str × V => q.1) _ := fun zz => by
        rw [rf.names] at zz
        rw [List.contains_iff_mem.mpr zz] at hf
        cases hf
      refine ⟨p, C, _, _, rfl, hh, hc, hn, by rw [rf.lens]; have := Nat.le_of_ble_eq_true hl; omega, ?_⟩
      rw [putF_new nf]
      exact g.nx r m3 s _ ((s1.trans s2).trans (st _)) (((e.step s1 mu1).step s2 mu2).step (st _) (hp.mut mu2 (.ins upd_same ((rf.snoc (r1.mono s2)).mono (st _))))) k
end

/-! ### loops -/
section
variable {W : WX} {E : ET} {r : Rho} {m : Mu} {P : DEnds} {G : Gx} {te : TE} {ta : TA} {tt : TT} {tb : TS} {i : Nat}
theorem goL {m0 : Mu} {H0 : Hp} {De : Ends} {nx : L2.St → Hp → Prop} {Nx : Rho → Mu → Prop} (g : GoS m0 H0 P De) {H : Hp} {m : Mu} (st : Stp (dom m0) H0 (dom m) H)
    (h : ∀ r' m' s' H', Stp (dom m) H (dom m') H' → EnvR r' m' s' H' → Nx r' m' → nx s' H') : GoS m H { nx := Nx, rt := P.rt, bk := P.nx, ct := Nx } { De with nx := nx, ct := nx, bk := De.nx } :=
  ⟨h, fun d m' v H' a b c q => g.rt d m' v H' (st.trans a) b c q, fun r' m' s' H' a b q => g.nx r' m' s' H' (st.trans a) b q, h⟩
theorem ws_range1 (h : Wa W E ta r m fun ds m1 => ∃ (j : Int) (I : Nat → Rho → Mu → Prop), ds = [.int j] ∧ (-(2 ^ 62) ≤ j ∧ j < 2 ^ 62) ∧ I 0 r m1 ∧
    (∀ k r' m', k < j.toNat → I k r' m' → Ws W E tb (r'.set i (some (.int (k : Int)))) m' { nx := I (k + 1), rt := P.rt, bk := P.nx, ct := I (k + 1) }) ∧ (∀ r' m', I j.toNat r' m' → P.nx r' m')) :
    Ws W E (tFor (iRng1 ta) (gName i) tb) r m P := fun s H De e z g =>
  h s H _ e z fun ds m1 vs H1 s1 mu1 r1 q => by
    obtain ⟨j, I, rfl, ⟨b1, b2⟩, h0, hs, hd⟩ := q
    cases r1 with
    | cons ra t =>
      cases t
      cases ra
      refine ⟨j, rfl, b1, b2, ?_⟩
      refine for_range (lo := 0) (n := j.toNat) (fun k s' H' => ∃ r' m', Stp (dom m) H (dom m') H' ∧ EnvR r' m' s' H' ∧ I k r' m') ⟨r, m1, s1, e.step s1 mu1, h0⟩ (fun k s' H' hk ⟨r', m', st, e', hi⟩ => ?_) (fun s' H' ⟨r', m', st, e', hi⟩ => g.nx r' m' s' H' st e' (hd r' m' hi))
      have q := hs k r' m' hk hi
      show tb _ (s'.set i (some (.int (0 + (k : Int))))) H'
      rw [Int.zero_add]
      exact q _ H' _ (e'.put (.int _)) (z.step st) (goL g st fun r2 m2 s2 H2 a b c => ⟨r2, m2, st.trans a, b, c⟩)
theorem ws_range2 (h : Wa W E ta r m fun ds m1 => ∃ (l j : Int) (I : Nat → Rho → Mu → Prop), ds = [.int l, .int j] ∧ (-(2 ^ 62) ≤ l ∧ l < 2 ^ 62 ∧ -(2 ^ 62) ≤ j ∧ j < 2 ^ 62) ∧ I 0 r m1 ∧
    (∀ k r' m', k < (j - l).toNat → I k r' m' → Ws W E tb (r'.set i (some (.int (l + (k : Int))))) m' { nx := I (k + 1), rt := P.rt, bk := P.nx, ct := I (k + 1) }) ∧ (∀ r' m', I (j - l).toNat r' m' → P.nx r' m')) :
    Ws W E (tFor (iRng2 ta) (gName i) tb) r m P := fun s H De e z g =>
  h s H _ e z fun ds m1 vs H1 s1 mu1 r1 q => by
    obtain ⟨l, j, I, rfl, b1, h0, hs, hd⟩ := q
    cases r1 with
    | cons ra t =>
      cases t with
      | cons rb t =>
        cases t
        cases ra
        cases rb
        refine ⟨l, j, rfl, b1, ?_⟩
        refine for_range (lo := l) (n := (j - l).toNat) (fun k s' H' => ∃ r' m', Stp (dom m) H (dom m') H' ∧ EnvR r' m' s' H' ∧ I k r' m') ⟨r, m1, s1, e.step s1 mu1, h0⟩ (fun k s' H' hk ⟨r', m', st, e', hi⟩ => ?_) (fun s' H' ⟨r', m', st, e', hi⟩ => g.nx r' m' s' H' st e' (hd r' m' hi))
        exact hs k r' m' hk hi _ H' _ (e'.put (.int _)) (z.step st) (goL g st fun r2 m2 s2 H2 a b c => ⟨r2, m2, st.trans a, b, c⟩)
/-- for over a list or a tuple -/
def iSeq (K : PySem.W.Frag) (tl : TE) : TI := fun σ H R => tl σ H fun x H1 => (∃ a, x = .ref a ∧ (∃ xs, SqL K H1 a xs) ∧ R (Itl K a) H1) ∨ (∃ a, x = .ref a ∧ (∃ xs, SqT K H1 a xs) ∧ R (Itt K a) H1)
theorem pi_seq {X : Cx} {tg l : Expr} {tl : TE} (hl : PE X l tl) : PI X tg l (iSeq X.K tl) := by
  refine ⟨fun pins s σ H R I h => ?_⟩
  refine thn (hl.run pins s σ H _ I h) fun v s1 ⟨x, H1, I1, r1, q1⟩ => ?_
  rcases q1 with ⟨a, e, ⟨xs, hq⟩, q⟩ | ⟨a, e, ⟨xs, hq⟩, q⟩
  · subst e
    cases r1
    obtain ⟨its, rv, p, hz⟩ := I1.list hq
    refine wpAny_pyIter_list p.isList ?_
    refine ⟨s1.heap.objs.size, [s1.heap.objs.size], _, _, H1, rfl, I1.kept (t' := s1.toks) fun b o e => Heap.get?_push_of_some _ e, turn_list a _, ⟨_, Heap.get?_push_size _ rfl, rfl, rfl⟩, fun b hb => ?_, q⟩
    have e : b = s1.heap.objs.size := by simpa using hb
    subst e
    exact I1.fpOk (Nat.le_refl _) (I1.hok.fresh (Nat.le_refl _))
  · subst e
    cases r1
    obtain ⟨its, rv, p, hz⟩ := I1.tuple hq
    refine wpAny_pyIter_tuple (show s1.heap.IsTuple a its.toArray from p) ?_
    refine ⟨s1.heap.objs.size, [s1.heap.objs.size], _, _, H1, rfl, I1.kept (t' := s1.toks) fun b o e => Heap.get?_push_of_some _ e, turn_tuple a _, ⟨_, Heap.get?_push_size _ rfl, rfl, rfl⟩, fun b hb => ?_, q⟩
    have e : b = s1.heap.objs.size := by simpa using hb
    subst e
    exact I1.fpOk (Nat.le_refl _) (I1.hok.fresh (Nat.le_refl _))
inductive SeqD : D → List D → Prop
  | lst {xs : List D} : SeqD (.lst xs) xs
  | tup {xs : List D} : SeqD (.tup xs) xs
/-- by an invariant -/
theorem ws_seqI {g : TG} (h : We W E te r m fun d m1 => ∃ (xs : List D) (I : Nat → Rho → Mu → Prop), SeqD d xs ∧ I 0 r m1 ∧
    (∀ k x r' m', xs[k]? = some x → I k r' m' → Wg W E g x r' m' fun r2 m2 => Ws W E tb r2 m2 { nx := I (k + 1), rt := P.rt, bk := P.nx, ct := I (k + 1) }) ∧ (∀ r' m', I xs.length r' m' → P.nx r' m')) :
    Ws W E (tFor (iSeq G.K te) g tb) r m P := fun s H De e z gg =>
  h s H _ e z fun d m1 v H1 s1 mu1 r1 q => by
    obtain ⟨xs, I, sd, h0, hs, hd⟩ := q
    cases sd with
    | lst =>
      cases r1 with
      | @lst a _ vs mm hh rs =>
        refine .inl ⟨a, rfl, ⟨_, rd_l hh⟩, ?_⟩
        refine for_list (xs := vs) (fun k s' H' => ∃ r' m', Stp (dom m1) H1 (dom m') H' ∧ EnvR r' m' s' H' ∧ I k r' m') ⟨r, m1, Stp.refl _ _, e.step s1 mu1, h0⟩ (fun k s' H' _ ⟨r', m', st1, e', hi⟩ => rd_l (st1.rd mm hh).1)
          (fun k x s' H' hx ⟨r', m', st1, e', hi⟩ => ?_) (fun s' H' ⟨r', m', st1, e', hi⟩ => gg.nx r' m' s' H' (s1.trans st1) e' (hd r' m' (by rw [rs.length]; exact hi)))
        obtain ⟨d, hd1, hd2⟩ := rs.getV hx
        refine hs k d r' m' hd1 hi s' H' x _ e' (z.step (s1.trans st1)) (hd2.mono st1) fun r2 m2 s2 H2 st2 e2 q2 => ?_
        exact q2 s2 H2 _ e2 (z.step (s1.trans (st1.trans st2))) (goL gg (s1.trans (st1.trans st2)) fun r3 m3 s3 H3 a3 b3 c3 => ⟨r3, m3, st1.trans (st2.trans a3), b3, c3⟩)
    | tup =>
      cases r1 with
      | @tup a _ vs mm hh rs =>
        refine .inr ⟨a, rfl, ⟨_, rd_t hh⟩, ?_⟩
        refine for_tup (xs := vs) (fun k s' H' => ∃ r' m', Stp (dom m1) H1 (dom m') H' ∧ EnvR r' m' s' H' ∧ I k r' m') ⟨r, m1, Stp.refl _ _, e.step s1 mu1, h0⟩ (fun k s' H' _ ⟨r', m', st1, e', hi⟩ => rd_t (st1 _ _ hh mm).1)
          (fun k x s' H' hx ⟨r', m', st1, e', hi⟩ => ?_) (fun s' H' ⟨r', m', st1, e', hi⟩ => gg.nx r' m' s' H' (s1.trans st1) e' (hd r' m' (by rw [rs.length]; exact hi)))
        obtain ⟨d, hd1, hd2⟩ := rs.getV hx
        refine hs k d r' m' hd1 hi s' H' x _ e' (z.step (s1.trans st1)) (hd2.mono st1) fun r2 m2 s2 H2 st2 e2 q2 => ?_
        exact q2 s2 H2 _ e2 (z.step (s1.trans (st1.trans st2))) (goL gg (s1.trans (st1.trans st2)) fun r3 m3 s3 H3 a3 b3 c3 => ⟨r3, m3, st1.trans (st2.trans a3), b3, c3⟩)
/-- turn by turn, the target a name -/
def ForL (W : WX) (E : ET) (i : Nat) (tb : TS) (P : DEnds) : List D → Rho → Mu → Prop
  | [], r, m => P.nx r m
  | x :: xs, r, m => Ws W E tb (r.set i (some x)) m { nx := ForL W E i tb P xs, rt := P.rt, bk := P.nx, ct := ForL W E i tb P xs }
theorem ws_seqU (h : We W E te r m fun d m1 => ∃ xs, SeqD d xs ∧ ForL W E i tb P xs r m1) : Ws W E (tFor (iSeq G.K te) (gName i) tb) r m P :=
  ws_seqI (h.imp fun d m1 ⟨xs, sd, q⟩ => ⟨xs, fun k r' m' => ForL W E i tb P (xs.drop k) r' m', sd, (show ForL W E i tb P (xs.drop 0) r m1 by rw [List.drop_zero]; exact q), fun k x r' m' hx hi => by
    obtain ⟨hk, hx'⟩ := List.getElem?_eq_some_iff.mp hx
    have hi2 : ForL W E i tb P (xs.drop k) r' m' := hi
    rw [List.drop_eq_getElem_cons hk, hx'] at hi2
    exact wg_name hi2, fun r' m' hi => by
    have hi2 : ForL W E i tb P (xs.drop xs.length) r' m' := hi
    rw [List.drop_length] at hi2
    exact hi2⟩)
theorem forL_nil {r : Rho} {m : Mu} (h : P.nx r m) : ForL W E i tb P [] r m := h
theorem forL_cons {x : D} {xs : List D} {r : Rho} {m : Mu} (h : Ws W E tb (r.set i (some x)) m { nx := ForL W E i tb P xs, rt := P.rt, bk := P.nx, ct := ForL W E i tb P xs }) : ForL W E i tb P (x :: xs) r m := h
/-- while, by a word and a measure -/
theorem ws_while (I : Rho → Mu → Prop) (f : Rho → Mu → Nat) (h0 : I r m) (h : ∀ r m, I r m → Wt W E tt r m fun b m1 => (b = true → Ws W E tb r m1 { nx := fun r' m' => I r' m' ∧ f r' m' < f r m, rt := P.rt, bk := P.nx, ct := fun r' m' => I r' m' ∧ f r' m' < f r m }) ∧ (b = false → P.nx r m1)) :
    Ws W E (tWhile tt tb) r m P := fun s H De e z g => by
  refine ⟨fun n s' H' => ∃ r' m', n = f r' m' ∧ Stp (dom m) H (dom m') H' ∧ EnvR r' m' s' H' ∧ I r' m', ⟨_, r, m, rfl, Stp.refl _ _, e, h0⟩, ?_⟩
  rintro n s' H' ⟨r', m', rfl, st, e', hi⟩
  refine h r' m' hi s' H' _ e' (z.step st) fun b m1 H1 s1 mu1 q => ?_
  cases b with
  | true =>
    rw [if_pos rfl]
    refine ⟨fun s2 H2 => ∃ r2 m2, f r2 m2 < f r' m' ∧ Stp (dom m) H (dom m2) H2 ∧ EnvR r2 m2 s2 H2 ∧ I r2 m2, fun s2 H2 ⟨r2, m2, l, a, b, c⟩ => ⟨_, l, r2, m2, rfl, a, b, c⟩, ?_⟩
    exact q.1 rfl s' H1 _ (e'.step s1 mu1) (z.step (st.trans s1)) (goL g (st.trans s1) fun r2 m2 s2 H2 a b c => ⟨r2, m2, c.2, st.trans (s1.trans a), b, c.1⟩)
  | false =>
    rw [if_neg Bool.false_ne_true]
    exact g.nx r' m1 s' H1 (st.trans s1) (e'.step s1 mu1) (q.2 rfl)
end
end DL
set_option Elab.async false
set_option linter.all false
set_option maxRecDepth 100000
/-! DL6: built-in functions, comprehensions, lists changed, errors raised and caught. -/
namespace DL
open PySem PySem.Spec L2
open PyProof.Rows hiding St

/-! ### built-in functions: the readings -/
section
variable {X : Cx} {W : WX} {j : Nat}
def rAbsI : List V → Hp → VK → Prop := fun xs H Q => ∃ i, xs = [.int i] ∧ Q (.int (if i < 0 then -i else i)) H
def cAbs : OC := fun xs _ H Q => rAbsI xs H Q
theorem cs_abs : CallS X (.builtin "abs") cAbs := CallS.of call_abs
def rInt1 : List V → Hp → VK → Prop := fun xs H Q => (∃ i, xs = [.int i] ∧ Q (.int i) H) ∨ ∃ k, xs = [.bl k] ∧ Q (.int (if k then 1 else 0)) H
def cInt : OC := fun xs _ H Q => rInt1 xs H Q
theorem cs_int : CallS X (.type "int") cInt := CallS.of call_int1
def rLenD (K : PySem.W.Frag) : List V → Hp → VK → Prop := fun xs H Q => ∃ x n, xs = [x] ∧ LenV K x H n ∧ Q (.int (n : Nat)) H
def cLen (G : Gx) : OC := fun xs _ H Q => rLenD G.K xs H Q
theorem cs_len : CallS X (.builtin "len") (cLen (Gx.of X)) := CallS.of call_len
def rMin2 : List V → Hp → VK → Prop := fun xs H Q => ∃ i j, xs = [.int i, .int j] ∧ Q (.int (if j < i then j else i)) H
def rMax2 : List V → Hp → VK → Prop := fun xs H Q => ∃ i j, xs = [.int i, .int j] ∧ Q (.int (if j > i then j else i)) H
def cMin : OC := fun xs _ H Q => rMin2 xs H Q
def cMax : OC := fun xs _ H Q => rMax2 xs H Q
theorem cs_min (hc : X.calm = true) : CallS X (.builtin "min") cMin := CallS.of (call_min2 hc)
theorem cs_max (hc : X.calm = true) : CallS X (.builtin "max") cMax := CallS.of (call_max2 hc)
def cGcd : OC := fun xs _ H Q => rGcd xs H Q
theorem cs_gcd : CallS X (.builtin "math.gcd") cGcd := CallS.of cr_gcd
def cIsi (G : Gx) : OC := fun xs _ H Q => rIsi G.K xs H Q
theorem cs_isi : CallS X (.builtin "isinstance") (cIsi (Gx.of X)) := CallS.of call_isi
end

/-! ### what they do -/
section
variable {W : WX} {E : ET} {r : Rho} {m : Mu} {K : KT} {G : Gx} {j : Nat}
theorem wc_abs {i : Int} (h : K (.int (i.natAbs : Int)) m) : Wc W E cAbs [.int i] r m K := fun s H Q vs e z rs g => by
  cases rs with
  | cons a t =>
    cases t; cases a
    refine ⟨i, rfl, ?_⟩
    have q : (if i < 0 then -i else i) = (i.natAbs : Int) := by split <;> omega
    rw [q]
    exact g _ m _ H (Stp.refl _ _) e.mu (.int _) h
theorem wc_int {i : Int} (h : K (.int i) m) : Wc W E cInt [.int i] r m K := fun s H Q vs e z rs g => by
  cases rs with
  | cons a t =>
    cases t; cases a
    exact .inl ⟨i, rfl, g _ m _ H (Stp.refl _ _) e.mu (.int _) h⟩
theorem wc_intB {b : Bool} (h : K (.int (if b then 1 else 0)) m) : Wc W E cInt [.bl b] r m K := fun s H Q vs e z rs g => by
  cases rs with
  | cons a t =>
    cases t; cases a
    exact .inr ⟨b, rfl, g _ m _ H (Stp.refl _ _) e.mu (.int _) h⟩
inductive LenD : D → Mu → Nat → Prop
  | tup {m : Mu} {xs : List D} : LenD (.tup xs) m xs.length
  | lst {m : Mu} {xs : List D} : LenD (.lst xs) m xs.length
  | mutb {m : Mu} {p : Addr} {xs : List D} (h : At m p (.lst xs)) : LenD (.ref p) m xs.length
theorem wc_len {d : D} {n : Nat} (l : LenD d m n) (h : K (.int (n : Int)) m) : Wc W E (cLen G) [d] r m K := fun s H Q vs e z rs g => by
  cases rs with
  | cons a t =>
    cases t
    refine ⟨_, n, rfl, ?_, g _ m _ H (Stp.refl _ _) e.mu (.int _) h⟩
    cases l with
    | tup => cases a with | tup mm hh rs => exact .inr ⟨_, rd_t hh, rs.length⟩
    | lst => cases a with | lst mm hh rs => exact .inl ⟨_, rd_l hh, rs.length⟩
    | mutb hm =>
      cases a
      have q := hm.rep e.mu
      cases q with
      | lst hh rs => exact .inl ⟨_, SqL.of hh, rs.length⟩
theorem wc_min {i k : Int} (h : K (.int (min i k)) m) : Wc W E cMin [.int i, .int k] r m K := fun s H Q vs e z rs g => by
  cases rs with
  | cons a t =>
    cases t with
    | cons b t =>
      cases t; cases a; cases b
      refine ⟨i, k, rfl, ?_⟩
      have q : (if k < i then k else i) = min i k := by split <;> omega
      rw [q]
      exact g _ m _ H (Stp.refl _ _) e.mu (.int _) h
theorem wc_max {i k : Int} (h : K (.int (max i k)) m) : Wc W E cMax [.int i, .int k] r m K := fun s H Q vs e z rs g => by
  cases rs with
  | cons a t =>
    cases t with
    | cons b t =>
      cases t; cases a; cases b
      refine ⟨i, k, rfl, ?_⟩
      have q : (if k > i then k else i) = max i k := by split <;> omega
      rw [q]
      exact g _ m _ H (Stp.refl _ _) e.mu (.int _) h
theorem wc_gcd {i k : Int} (h : K (.int ((Nat.gcd i.natAbs k.natAbs : Nat) : Int)) m) : Wc W E cGcd [.int i, .int k] r m K := fun s H Q vs e z rs g => by
  cases rs with
  | cons a t =>
    cases t with
    | cons b t =>
      cases t; cases a; cases b
      exact ⟨i, k, rfl, g _ m _ H (Stp.refl _ _) e.mu (.int _) h⟩
/-- the class of a tree, as isinstance asks -/
structure InsK (K : PySem.W.Frag) (C : Addr) : Prop where
  cl : Cls K C
  ha : PySem.W.findIn K (.ref C) "__class__" = some (some (.builtin "object.__class__"))
  hn : PySem.W.specialIn K (.builtin "object.__class__") "__get__" = some (some (.builtin "getset_descriptor.__get__"))
  ht : PySem.W.takesIn K (.builtin "object.__class__") = some true
  hm : PySem.W.mroIn K C (.type "object") = some true
inductive TyD (G : Gx) : D → Mu → Value → Prop
  | non {m : Mu} : TyD G .non m (.type "NoneType")
  | bl {m : Mu} {b : Bool} : TyD G (.bl b) m (.type "bool")
  | int {m : Mu} {i : Int} : TyD G (.int i) m (.type "int")
  | str {m : Mu} {x : Str} : TyD G (.str x) m (.type "str")
  | tup {m : Mu} {xs : List D} : TyD G (.tup xs) m (.type "tuple")
  | lst {m : Mu} {xs : List D} : TyD G (.lst xs) m (.type "list")
  | ins {m : Mu} {C : Addr} {ns : List Str} {ds : List D} (h : InsK G.K C) : TyD G (.ins C ns ds) m (.ref C)
theorem TyD.ok {d : D} {t : Value} {H : Hp} {v : V} (h : TyD G d m t) (rp : Rep (dom m) H d v) : TyX G.K H v t := by
  cases h with
  | non => cases rp; exact .base .non
  | bl => cases rp; exact .base (.bl _)
  | int => cases rp; exact .base (.int _)
  | str => cases rp; exact .base (.str _)
  | tup =>
    cases rp with
    | tup mm hh rs => exact .base (.tup hh)
  | lst =>
    cases rp with
    | lst mm hh rs =>
      rcases hh with hh | ⟨o, hh⟩
      · exact .base (.lst hh)
      · exact .base (.frz hh)
  | ins h =>
    cases rp with
    | ins mm hh rs => exact .base (.ins hh h.cl h.ha h.hn h.ht h.hm)
theorem wc_isiT {d : D} {t : Value} {n : String} {b : Bool} (ty : TyD G d m t) (hk : PySem.W.kitOne G.K t (.type n) = some b) (h : K (.bl b) m) : Wc W E (cIsi G) [d, .ty n] r m K := fun s H Q vs e z rs g => by
  cases rs with
  | cons a tt =>
    cases tt with
    | cons c tt =>
      cases tt; cases c
      exact ⟨_, _, t, .type n, b, rfl, .ty n, ty.ok a, hk, g _ m _ H (Stp.refl _ _) e.mu (.bl _) h⟩
theorem wc_isiC {d : D} {t : Value} {C : Addr} {b : Bool} (ty : TyD G d m t) (hk : PySem.W.kitOne G.K t (.ref C) = some b) (h : K (.bl b) m) : Wc W E (cIsi G) [d, .ref C] r m K := fun s H Q vs e z rs g => by
  cases rs with
  | cons a tt =>
    cases tt with
    | cons c tt =>
      cases tt; cases c
      exact ⟨_, _, t, .ref C, b, rfl, .own C, ty.ok a, hk, g _ m _ H (Stp.refl _ _) e.mu (.bl _) h⟩
end

/-! ### comprehensions over a list or a tuple, the element by a function -/
section
variable {W : WX} {E : ET} {r : Rho} {m : Mu} {K : KT} {G : Gx} {te tx : TE} {i : Nat}
theorem wipe1 (s : L2.St) : wipe s [i] = s.set i none := rfl
theorem we_lcmG {f : D → D} {W0 : WX} {E0 : ET} (hz : ∀ {m : Mu} {H : Hp}, Rz W E m H → Rz W0 E0 m H) (h : We W E tx r m fun d m1 => ∃ xs, SeqD d xs ∧ Nat.ble xs.length 100000 = true ∧ (∀ x ∈ xs, ∀ (q : Addr × MO) (K2 : KT), K2 (f x) (q :: m1) → We W0 E0 te (r.set i (some x)) (q :: m1) K2) ∧ K (.lst (xs.map f)) m1) :
    We W E (tLc (iSeq G.K tx) (gName i) tYes te [i]) r m K := fun s H Q e z g =>
  h s H _ e z fun d m1 v H1 s1 mu1 r1 q => by
    obtain ⟨xs, sd, hlen, hel, hK⟩ := q
    have e1 := e.step s1 mu1
    have hlen' := Nat.le_of_ble_eq_true hlen
    have start : ∀ Dd, H1 Dd = none → (Stp (dom m1) H1 (dom ((Dd, MO.lst ((xs.take 0).map f)) :: m1)) (upd H1 Dd (.lst [])) ∧ MutR ((Dd, .lst ((xs.take 0).map f)) :: m1) (upd H1 Dd (.lst []))) := fun Dd hd =>
      ⟨Stp.newM hd, mu1.newM hd (.lst upd_same .nil)⟩
    have fin : ∀ (vs : List V) (Dd : Addr), Reps (dom m1) H1 xs vs → ∀ H', (Stp (dom m1) H1 (dom ((Dd, MO.lst ((xs.take vs.length).map f)) :: m1)) H' ∧ MutR ((Dd, .lst ((xs.take vs.length).map f)) :: m1) H') → Q (.ref Dd) H' := fun vs Dd rs H' ⟨a, b⟩ => by
      rw [← rs.length, List.take_length] at a b
      have ls : Stp (dom ((Dd, MO.lst (xs.map f)) :: m1)) H' (dom m1) H' := Stp.less fun a z => dom_cons.mpr (.inr z)
      have q := (At.head (m := m1) (p := Dd) (o := .lst (xs.map f))).rep b
      cases q with
      | lst hh rr => exact g _ m1 _ H' (s1.trans (a.trans ls)) b.drop (.lst b.notin (.inl hh) (rr.mono ls)) hK
    have turn : ∀ (vs : List V) (Dd : Addr), Reps (dom m1) H1 xs vs → ∀ k x H', vs[k]? = some x → (Stp (dom m1) H1 (dom ((Dd, MO.lst ((xs.take k).map f)) :: m1)) H' ∧ MutR ((Dd, .lst ((xs.take k).map f)) :: m1) H') →
        te ((wipe s [i]).set i (some x)) H' fun y H4 => ∃ acc, H4 Dd = some (.lst acc) ∧ acc.length < sizeLine ∧ (Stp (dom m1) H1 (dom ((Dd, MO.lst ((xs.take (k + 1)).map f)) :: m1)) (upd H4 Dd (.lst (acc ++ [y]))) ∧ MutR ((Dd, .lst ((xs.take (k + 1)).map f)) :: m1) (upd H4 Dd (.lst (acc ++ [y])))) := fun vs Dd rs k x H' hx ⟨a, b⟩ => by
      obtain ⟨d, hd1, hd2⟩ := rs.getV hx
      have hmem : d ∈ xs := List.mem_of_getElem? hd1
      have ee : EnvR (r.set i (some d)) ((Dd, .lst ((xs.take k).map f)) :: m1) ((wipe s [i]).set i (some x)) H' := by
        have e' := e1.step a b
        refine ⟨?_, b⟩
        rw [wipe1, List.set_set]
        exact (e'.put (hd2.mono a)).env
      refine hel d hmem (Dd, .lst ((xs.take k).map f)) (fun d' m' => d' = f d ∧ m' = (Dd, .lst ((xs.take k).map f)) :: m1) ⟨rfl, rfl⟩ _ H' _ ee (hz (z.step (s1.trans a))) fun d' m' y H4 st4 mu4 r4 qq => ?_
      obtain ⟨rfl, rfl⟩ := qq
      have q := (At.head (m := m1) (p := Dd) (o := .lst ((xs.take k).map f))).rep mu4
      have ex : xs.take (k + 1) = xs.take k ++ [d] := by
        rw [List.take_add_one, hd1]
        rfl
      cases q with
      | @lst _ ys hh rr =>
        have al : ys.length < sizeLine := by
          rw [← rr.length, List.length_map, List.length_take]
          have : (100000 : Nat) < sizeLine := by decide
          omega
        have P : Put ((Dd, MO.lst ((xs.take k).map f)) :: m1) Dd (.lst ((xs.take (k + 1)).map f)) ((Dd, .lst ((xs.take (k + 1)).map f)) :: m1) := .head
        refine ⟨ys, hh, al, a.trans (st4.trans P.stp), P.mut mu4 (.lst upd_same ?_)⟩
        rw [ex, List.map_append]
        exact Reps.append (rr.mono P.stp) (.cons (r4.mono P.stp) .nil)
    cases sd with
    | lst =>
      cases r1 with
      | @lst a _ vs mm hh rs =>
        refine .inl ⟨a, rfl, ⟨vs, rd_l hh⟩, fun (Dd : Addr) (hD : H1 Dd = none) => ?_⟩
        refine lc_list (xs := vs) (fun k H' => Stp (dom m1) H1 (dom ((Dd, MO.lst ((xs.take k).map f)) :: m1)) H' ∧ MutR ((Dd, .lst ((xs.take k).map f)) :: m1) H') (start Dd hD) (fun k H' _ p => rd_l (p.1.rd mm hh).1)
          (fun k x H' hx p => ⟨by simp only [wipe, List.set_set], ?_⟩) (fun H' p => fin vs Dd rs H' p)
        unfold tYes
        dsimp only
        rw [if_pos rfl]
        exact turn vs Dd rs k x H' hx p
    | tup =>
      cases r1 with
      | @tup a _ vs mm hh rs =>
        refine .inr ⟨a, rfl, ⟨vs, rd_t hh⟩, fun (Dd : Addr) (hD : H1 Dd = none) => ?_⟩
        refine lc_tup (xs := vs) (fun k H' => Stp (dom m1) H1 (dom ((Dd, MO.lst ((xs.take k).map f)) :: m1)) H' ∧ MutR ((Dd, .lst ((xs.take k).map f)) :: m1) H') (start Dd hD) (fun k H' _ p => rd_t (p.1 _ _ hh mm).1)
          (fun k x H' hx p => ⟨by simp only [wipe, List.set_set], ?_⟩) (fun H' p => fin vs Dd rs H' p)
        unfold tYes
        dsimp only
        rw [if_pos rfl]
        exact turn vs Dd rs k x H' hx p
theorem we_lcm {f : D → D} (h : We W E tx r m fun d m1 => ∃ xs, SeqD d xs ∧ Nat.ble xs.length 100000 = true ∧ (∀ x ∈ xs, ∀ (q : Addr × MO) (K2 : KT), K2 (f x) (q :: m1) → We W E te (r.set i (some x)) (q :: m1) K2) ∧ K (.lst (xs.map f)) m1) :
    We W E (tLc (iSeq G.K tx) (gName i) tYes te [i]) r m K := we_lcmG (fun z => z) h
/-- no call of an element lets an exception out -/
theorem we_lcmN {f : D → D} (h : We W E tx r m fun d m1 => ∃ xs, SeqD d xs ∧ Nat.ble xs.length 100000 = true ∧ (∀ x ∈ xs, ∀ (q : Addr × MO) (K2 : KT), K2 (f x) (q :: m1) → We (fun _ _ _ _ => False) (fun _ _ _ => False) te (r.set i (some x)) (q :: m1) K2) ∧ K (.lst (xs.map f)) m1) :
    We W E (tLc (iSeq G.K tx) (gName i) tYes te [i]) r m K := we_lcmG (fun _ _ _ _ _ _ _ _ _ _ _ (e : False) => e.elim) h
end
end DL
set_option Elab.async false
set_option linter.all false
set_option maxRecDepth 100000
/-! DL7: lists changed, slices, errors raised and caught. -/
namespace DL
open PySem PySem.Spec L2
open PyProof.Rows hiding St

section
variable {W : WX} {E : ET} {r : Rho} {m : Mu} {K : KT} {G : Gx} {te to : TE} {ta : TA} {i : Nat} {P : DEnds}
/-! ### xs.append(d) -/
theorem we_app (h : We W E to r m fun o m1 => ∃ p xs1, o = .ref p ∧ At m1 p (.lst xs1) ∧ Wa W E ta r m1 fun ds m2 => ∃ xs d m3, ds = [d] ∧ At m2 p (.lst xs) ∧ xs.length < 1000000 ∧ Put m2 p (.lst (xs ++ [d])) m3 ∧ K .non m3) :
    We W E (tBM G.K "list" rAppend to ta) r m K := fun s H Q e z g =>
  h s H _ e z fun o m1 v H1 s1 mu1 r1 q => by
    obtain ⟨p, xs1, rfl, ha1, q⟩ := q
    cases r1
    have at1 := ha1.rep mu1
    cases at1 with
    | lst hh1 rs1 =>
      refine ⟨Or.inl ⟨rfl, _, SqL.of hh1⟩, ?_⟩
      refine q s H1 _ (e.step s1 mu1) (z.step s1) fun ds m2 vs H2 s2 mu2 r2 q2 => ?_
      obtain ⟨xs, d, m3, rfl, ha, hl, hp, k⟩ := q2
      have at2 := ha.rep mu2
      cases at2 with
      | lst hh rs =>
        cases r2 with
        | cons rd t =>
          cases t
          have st : ∀ o, Stp (dom m2) H2 (dom m3) (upd H2 p o) := fun o => hp.stp
          refine ⟨p, _, _, rfl, rfl, hh, Nat.lt_of_lt_of_le (by rw [← rs.length]; exact hl) (by decide : 1000000 ≤ sizeLine), ?_⟩
          exact g _ m3 _ _ ((s1.trans s2).trans (st _)) (hp.mut mu2 (.lst upd_same (Reps.append (rs.mono (st _)) (.cons (rd.mono (st _)) .nil)))) .non k

/-! ### slices -/
def cutD (xs : List D) (lo hi : Option Int) : List D := (xs.drop (HT.sIx xs.length 0 lo)).take (HT.sIx xs.length xs.length hi - HT.sIx xs.length 0 lo)
theorem Reps.cut {M : Addr → Prop} {H : Hp} {ds : List D} {vs : List V} (h : Reps M H ds vs) (lo hi : Option Int) : Reps M H (cutD ds lo hi) (cutV vs lo hi) := by
  unfold cutD cutV
  rw [h.length]
  exact (h.drop _).take _
def Wo (W : WX) (E : ET) (t : TO) (r : Rho) (m : Mu) (KO : Option Int → Mu → Prop) : Prop := ∀ s H Q, EnvR r m s H → Rz W E m H → (∀ o m' H', Stp (dom m) H (dom m') H' → MutR m' H' → KO o m' → Q o H') → t s H Q
theorem wo_none {KO : Option Int → Mu → Prop} (h : KO none m) : Wo W E tNoPart r m KO := fun s H Q e z g => g none m H (Stp.refl _ _) e.mu h
theorem wo_some {KO : Option Int → Mu → Prop} (h : We W E te r m fun d m1 => ∃ i, d = .int i ∧ KO (some i) m1) : Wo W E (tPart te) r m KO := fun s H Q e z g =>
  h s H _ e z fun d m1 v H1 s1 mu1 r1 ⟨i, hd, k⟩ => by
    subst hd
    cases r1
    exact ⟨i, rfl, g _ m1 H1 s1 mu1 k⟩
theorem we_slL {tl th : TO} (h : We W E te r m fun d m1 => ∃ xs, d = .lst xs ∧ Wo W E tl r m1 fun lo m2 => Wo W E th r m2 fun hi m3 => K (.lst (cutD xs lo hi)) m3) : We W E (tSl (rSlL G.K) te tl th) r m K := fun s H Q e z g =>
  h s H _ e z fun d m1 v H1 s1 mu1 r1 ⟨xs, hd, q⟩ => by
    subst hd
    refine q s H1 _ (e.step s1 mu1) (z.step s1) fun lo m2 H2 s2 mu2 q2 => ?_
    refine q2 s H2 _ ((e.step s1 mu1).step s2 mu2) ((z.step s1).step s2) fun hi m3 H3 s3 mu3 k => ?_
    have r3 := (r1.mono s2).mono s3
    cases r3 with
    | lst mm hh rs =>
      refine ⟨_, _, rfl, rd_l hh, fun p hp => ?_⟩
      exact g _ m3 _ _ (((s1.trans s2).trans s3).trans (Stp.new hp)) (mu3.new hp) (.lst (fun zz => by obtain ⟨u, hu⟩ := mu3.there zz; rw [hp] at hu; cases hu) (.inl upd_same) ((rs.cut lo hi).mono (Stp.new hp))) k
/-- xs[::-1] -/
theorem Reps.rev {M : Addr → Prop} {H : Hp} : ∀ {d : List D} {v : List V}, Reps M H d v → Reps M H d.reverse v.reverse
  | _, _, .nil => .nil
  | _, _, .cons r t => by
    rw [List.reverse_cons, List.reverse_cons]
    exact Reps.append (Reps.rev t) (.cons r .nil)
theorem we_revL (h : We W E te r m fun d m1 => ∃ xs, d = .lst xs ∧ K (.lst xs.reverse) m1) : We W E (tRevL G.K te) r m K := fun s H Q e z g => by
  refine h s H _ e z fun d m1 v H1 s1 mu1 r1 ⟨xs, hd, k⟩ => ?_
  subst hd
  cases r1 with
  | lst mm hh rs =>
    refine ⟨_, _, rfl, rd_l hh, fun p hp => ?_⟩
    exact g _ m1 _ _ (s1.trans (Stp.new hp)) (mu1.new hp) (.lst (fun zz => by obtain ⟨u, hu⟩ := mu1.there zz; rw [hp] at hu; cases hu) (.inl upd_same) (rs.rev.mono (Stp.new hp))) k
/-- .. of a list that is changed -/
theorem we_revM (h : We W E te r m fun d m1 => ∃ p xs, d = .ref p ∧ At m1 p (.lst xs) ∧ K (.lst xs.reverse) m1) : We W E (tRevL G.K te) r m K := fun s H Q e z g => by
  refine h s H _ e z fun d m1 v H1 s1 mu1 r1 ⟨q, xs, hd, ha, k⟩ => ?_
  subst hd
  cases r1
  have at1 := ha.rep mu1
  cases at1 with
  | lst hh rs =>
    refine ⟨_, _, rfl, SqL.of hh, fun p hp => ?_⟩
    exact g _ m1 _ _ (s1.trans (Stp.new hp)) (mu1.new hp) (.lst (fun zz => by obtain ⟨u, hu⟩ := mu1.there zz; rw [hp] at hu; cases hu) (.inl upd_same) (rs.rev.mono (Stp.new hp))) k
end

/-! ### errors made by an own class: C(e, ..) with an __init__ that keeps its arguments in fields -/
def spXI (C : Addr) (ns : List Str) : Sp := fun vs H Q _ => ∃ (a : Addr) (ys : List V), vs = .ref a :: ys ∧ ys.length = ns.length ∧ H a = some (exo a C none) ∧
  ∀ d H', H d = none → d ≠ a → (∀ b, b ≠ a → b ≠ d → H' b = H b) → H' a = some (exo a C (some d)) → H' d = some (exd d (ns.zip ys).reverse) → Q .non H'
structure Exc (G : Gx) (x : Str) (C : Addr) (ns : List Str) : Prop where
  ex : ∃ (f : Addr) (fd : FuncData) (ps : List Str), FnOk G.P G.w G.K G.mg G.base CX0 1 f fd ps (spXI C ns) ∧ Binds G.K fd ps [] ∧ PySem.W.findIn G.K (.ref C) "__init__" = some (some (.ref f)) ∧ PySem.W.typeIn G.K (.ref f) = some (.type "function")
  ox : OexC G.K C
  mgC : G.mg x = some (.ref C)
section
variable {X : Cx} {W : WX} {E : ET} {x : Str} {C : Addr} {ns : List Str} {e : Expr} {es : List Expr} {ta : TA} {p pos pos' : Pos} {j : Nat}
theorem pmkN_oex (c : Exc (Gx.of X) x C ns) (hr : Room j X.A) (hj : 2 ≤ j) (hg : Gl X x) (ha : PA X (e :: es) ta)
    (hdb : (x == ("__debug__" : Str)) = false := by decide) (he : starEach (e :: es) X.env = (false, eval e X.env) :: starEach es X.env := by rfl) (hpl : (backTo pos (starEach es X.env)).any (·.1) = false := by rfl) :
    L2N.PMk X (.Call (.Name x p) (e :: es) [] pos) (tMkO C (spXI C ns) [] ta) := by
  intro pins s σ H Q I h
  obtain ⟨fI, fd, ps, F1, hb, iC, tI⟩ := c.ex
  have T := c.ox
  obtain ⟨nm, q, N, bs, bm, sn, sub, ab, col, dd, k0, k1, k2, k3, k5, hC, hbm⟩ := T.cls
  refine wpAny_Call_Name_kw (ld_glob I hg c.mgC ?_ hdb)
  refine PySem.W.callWith_K (h₀ := X.base) I.ok.mod.kin T.kC (thn (ha.run pos pins s σ H _ I h) fun us s1 ⟨vs, H1, I1, r1, hz, q1⟩ => ⟨I1.kIn, ?_⟩) he hpl
  show wpAny _ _ (call (.ref C) us) _ _ _
  obtain ⟨hp, g, dr, tk, os⟩ := s1
  have hsz : hp.objs.size ≤ hp.objs.size + 1 := Nat.le_succ _
  have hn : H1 (hp.objs.size + 1) = none := I1.hok.fresh hsz
  have hq := q1 (hp.objs.size + 1) hn
  rw [List.append_nil] at hq
  have kk : ∀ b o, hp.get? b = some o → ((hp.push (PySem.W.kdv_tup us)).push (PySem.HandSPX.excO C hp.objs.size)).get? b = some o := fun b o e => Heap.get?_push_of_some _ (Heap.get?_push_of_some _ e)
  have hget : ((hp.push (PySem.W.kdv_tup us)).push (PySem.HandSPX.excO C hp.objs.size)).get? (hp.objs.size + 1) = some (PySem.HandSPX.excO C hp.objs.size) := by heap_get
  have I2 : Inv X pins σ (upd H1 (hp.objs.size + 1) (exo (hp.objs.size + 1) C none)) ⟨(hp.push (PySem.W.kdv_tup us)).push (PySem.HandSPX.excO C hp.objs.size), g, dr, tk, os⟩ :=
    I1.laid (t' := tk) (a := hp.objs.size + 1) (o := exo (hp.objs.size + 1) C none) (h' := (hp.push (PySem.W.kdv_tup us)).push (PySem.HandSPX.excO C hp.objs.size)) kk hsz (exo_ok hget)
  have r2 : Vals (V.ref (hp.objs.size + 1) :: vs) (Value.ref (hp.objs.size + 1) :: us) := .cons rfl r1
  have hl : (Value.ref (hp.objs.size + 1) :: us ++ []).length = ps.length := by
    have e := r2.length
    rw [F1.len _ _ _ _ hq] at e
    rw [List.append_nil]
    exact e.symm
  have hus : us.length ≤ sizeLine := by
    rw [← Paired.length r1, sizeLine_eq]
    omega
  have b2 := hb _ (Value.ref (hp.objs.size + 1) :: us) I2.kIn hl
  rw [List.append_nil] at b2
  refine wpAny_call (PySem.HandSPX.call_own F.excBase_ValueError (fun Y => PySem.HandSPX.refsVE_contains Y bm hbm) (I1.kIn _ _ hC) (PySem.W.looks_findIn I1.kIn iC) (fun self => PySem.W.bind_fn I1.kIn self tI) hus
    (codeAny_mono (F1.run _ X.stack _ _ ⟨Value.ref (hp.objs.size + 1) :: us, []⟩ (Value.ref (hp.objs.size + 1) :: us) _ _ (fun _ _ _ => False) ((hr.mono hj).make C us []) (I2.env0.make C us []) b2 r2 hq) fun r s' hq' => ?_))
  cases r with
  | error er => exact False.elim hq'
  | ok fl =>
    cases fl with
    | ret u =>
      obtain ⟨v, H2, os2, bare2, un2, hok2, rv, ev, d, fs, ea, ed, hd1, q2⟩ := hq'
      subst ev
      obtain ⟨h2, g2, d2, t2, os'⟩ := s'
      obtain ⟨t0, G, J, kG, ge, hoe, na⟩ := mk_end0 (d2 := d2) (t2 := t2) I1 hsz kk un2 hok2 os2 bare2 ea ed hd1
      exact ⟨rv, ⟨_, _, _, ⟨G, g2, d2, t2, os'⟩, _, .ref C, some d, rfl, J, kG, ge, hoe, ⟨rfl, rfl, fun vs e => by cases e; rfl⟩, rfl, rfl, na, rfl, bare2, raises_own T.exC T.tyC, q2⟩⟩
    | next => exact False.elim hq'
    | brk => exact False.elim hq'
    | cont => exact False.elim hq'
def tRs (C : Addr) (ns : List Str) (W : WX) (ta : TA) : TS := fun _ σ H => tMkO C (spXI C ns) [] ta σ H fun cls d H' => W cls d σ H'
theorem ps_rs (c : Exc (Gx.of X) x C ns) (hc : X.calm = true) (hr : Room j X.A) (hj : 2 ≤ j) (tk : L2N.Takes X W) (hg : Gl X x) (ha : PA X (e :: es) ta)
    (hdb : (x == ("__debug__" : Str)) = false := by decide) (he : starEach (e :: es) X.env = (false, eval e X.env) :: starEach es X.env := by rfl) (hpl : (backTo pos (starEach es X.env)).any (·.1) = false := by rfl) :
    PS X (.Raise (some (.Call (.Name x p) (e :: es) [] pos)) none pos') (tRs C ns W ta) := L2N.ps_raise hc tk (pmkN_oex c hr hj hg ha hdb he hpl)
theorem repF_zip {M : Addr → Prop} {H : Hp} : ∀ {ns : List Str} {ds : List D} {vs : List V}, ds.length = ns.length → Reps M H ds vs → RepF M H ns ds (ns.zip vs)
  | [], [], _, _, .nil => .nil
  | n :: ns, d :: ds, v :: vs, h, .cons r t => .cons r (repF_zip (by simpa using h) t)
theorem RepF.append {M : Addr → Prop} {H : Hp} : ∀ {n n' : List Str} {d d' : List D} {v v' : List (Str × V)}, RepF M H n d v → RepF M H n' d' v' → RepF M H (n ++ n') (d ++ d') (v ++ v')
  | _, _, _, _, _, _, .nil, h => h
  | _, _, _, _, _, _, .cons r t, h => .cons r (RepF.append t h)
theorem RepF.rev {M : Addr → Prop} {H : Hp} : ∀ {n : List Str} {d : List D} {v : List (Str × V)}, RepF M H n d v → RepF M H n.reverse d.reverse v.reverse
  | _, _, _, .nil => .nil
  | _, _, _, .cons r t => by
    rw [List.reverse_cons, List.reverse_cons, List.reverse_cons]
    exact RepF.append (RepF.rev t) (.cons r .nil)
theorem ws_rs {r : Rho} {m : Mu} {P : DEnds} (h : Wa W E ta r m fun ds m1 => ds.length = ns.length ∧ Nat.ble ds.length 1000 = true ∧ E ⟨C, ns.reverse, ds.reverse⟩ r m1) : Ws W E (tRs C ns W ta) r m P := fun s H De e z g =>
  h s H _ e z fun ds m1 vs H1 s1 mu1 r1 ⟨hl, h1000, q⟩ => by
    refine ⟨by rw [← r1.length]; exact Nat.le_of_ble_eq_true h1000, fun a ha => ?_⟩
    refine ⟨a, vs, by rw [List.append_nil], by rw [← r1.length, hl], upd_same, fun d H' hd hne hs h1 h2 => ⟨rfl, d, _, h1, h2, ?_, ?_⟩⟩
    · rw [upd_ne hne] at hd
      exact hd
    · rw [upd_ne hne] at hd
      have hd' : H1 d = none := hd
      have st : Stp (dom m1) H1 (dom m1) (upd (del H' a) d (.xd (ns.zip vs).reverse)) := fun b o hb hm => by
        have nbd : b ≠ d := fun e => by rw [e, hd'] at hb; cases hb
        have nba : b ≠ a := fun e => by rw [e, ha] at hb; cases hb
        rw [upd_ne nbd, del_ne nba, hs b nba nbd, upd_ne nba]
        exact ⟨hb, hm⟩
      have mu : MutR m1 (upd (del H' a) d (.xd (ns.zip vs).reverse)) := ⟨mu1.nd, fun q hq => (mu1.at_ q hq).mono st fun u hu => by
        have nbd : q.1 ≠ d := fun e => by rw [e, hd'] at hu; cases hu
        have nba : q.1 ≠ a := fun e => by rw [e, ha] at hu; cases hu
        rw [upd_ne nbd, del_ne nba, hs _ nba nbd, upd_ne nba]
        exact hu⟩
      have nd : ¬ dom m1 d := fun zz => by obtain ⟨u, hu⟩ := mu1.there zz; rw [hd'] at hu; cases hu
      refine z _ r m1 _ _ s _ (s1.trans st) (e.step (s1.trans st) mu) ⟨rfl, .inr ⟨d, _, rfl, upd_same, nd, ?_⟩⟩ q
      exact RepF.rev (repF_zip hl (r1.mono st))
end

/-! ### try: .. except X as n: .. -/
abbrev wNo : WX := fun _ _ _ _ => False
abbrev eNo : ET := fun _ _ _ => False
theorem takes0N {X : Cx} : L2N.Takes X wNo := fun _ _ x => by
  obtain ⟨_, _, _, _, _, _, _, _, _, _, _, _, _, _, _, _, z⟩ := x
  exact z.elim
abbrev pX (P : DEnds) (i : Nat) : DEnds := { nx := fun r m => P.nx (r.set i none) m, rt := P.rt, bk := fun r m => P.bk (r.set i none) m, ct := fun r m => P.ct (r.set i none) m }
def eAs (K : PySem.W.Frag) (c : Value) (i : Nat) (ts : Addr → Value → Option Addr → TS) (P : DEnds) (E : ET) : ET := fun x r' m' => ∃ b, PySem.W.exmOne K (.ref x.C) c = some b ∧
  (b = true → ∀ a dd, Ws wNo eNo (ts a (.ref x.C) dd) (r'.set i (some (.exc a dd x.C x.ns x.ds))) m' (pX P i)) ∧ (b = false → E x r' m')
section
variable {W : WX} {E : ET} {r : Rho} {m : Mu} {K : PySem.W.Frag} {P : DEnds} {c : Value} {i : Nat} {tb : WX → TS} {ts : Addr → Value → Option Addr → TS} {te : TE} {G : Gx} {KT' : KT}
theorem repX_exc {M : Addr → Prop} {H : Hp} {x : Ex} {cls : Value} {dd : Option Addr} {a : Addr} (h : RepX M H x cls dd) : Rep M H (.exc a dd x.C x.ns x.ds) (.ref a) := by
  obtain ⟨e, h⟩ := h
  obtain ⟨C, ns, ds⟩ := x
  rcases h with ⟨rfl, h1, h2⟩ | ⟨d, gs, rfl, h2, h3, h4⟩
  · have h1' : ns = [] := h1
    have h2' : ds = [] := h2
    subst h1' h2'
    exact .excN
  · exact .excS h3 h2 h4
def tTry (K : PySem.W.Frag) (c : Value) (i : Nat) (ts : Addr → Value → Option Addr → TS) (tb : WX → TS) (W : WX) : TS := fun D σ H => tb (wAs K c i ts W D) D σ H
theorem ps_tryD {X : Cx} {x n : Str} {b₀ : Stmt} {body suite : List Stmt} {np pos pos' : Pos} (hs : X.stack = X.env :: X.outer) (hf : X.env.frame = some X.env.locals) (hN : X.N.Nodup) (hi : X.N[i]? = some n) (hln : X.env.kindOf n = some .local) (hc : Names X x c) (tk : L2N.Takes X W)
    (hb : ∀ (W : WX) (pn : List (Addr × Obj)) (xe : Value → Shared → Prop), L2N.Takes (X.tr pn xe) W → PassesOwn (model X.prog X.w) X.A X.env xe → PSs (X.tr pn xe) body (tb W))
    (hsu : ∀ (a : Addr) (oe : Obj) (cls : Value) (d : Option Addr) (pn : List (Addr × Obj)), L2N.Zn cls d oe → (∃ vs, oe.data = .fields vs) → PSs (X.suite a ((a, oe) :: pn)) (b₀ :: suite) (ts a cls d)) :
    PS X (.Try body [.ExceptHandler (some (.Name x np)) (some n) (b₀ :: suite) pos'] [] [] pos) (tTry X.K c i ts tb W) := L2N.ps_try_as hs hf hN hi hln hc tk hb hsu
theorem ws_try (h : ∀ W', Ws W' (eAs K c i ts P E) (tb W') r m P) : Ws W E (tTry K c i ts tb W) r m P := fun s H De e z g => by
  refine h (wAs K c i ts W De) s H De e ?_ g
  intro x r' m' cls dd s' H' st er rx ⟨b, hb, ht, hf⟩
  obtain rfl := rx.1
  refine ⟨b, hb, fun hbt a ha => ?_, fun hbf => z x r' m' _ dd s' H' st er rx (hf hbf)⟩
  have g' := g.step st
  refine ht hbt a dd _ H' _ (er.put (repX_exc rx)) (fun _ _ _ _ _ _ _ _ _ _ q => q.elim) ?_
  have back : ∀ {r2 : Rho} {m2 : Mu} {s2 : L2.St} {H2 : Hp}, EnvR r2 m2 s2 H2 → EnvR (r2.set i none) m2 (s2.set i none) H2 := fun e2 => ⟨e2.env.set (.none _) i, e2.mu⟩
  exact ⟨fun r2 m2 s2 H2 a2 b2 q => g'.nx _ m2 _ H2 a2 (back b2) q, g'.rt, fun r2 m2 s2 H2 a2 b2 q => g'.bk _ m2 _ H2 a2 (back b2) q, fun r2 m2 s2 H2 a2 b2 q => g'.ct _ m2 _ H2 a2 (back b2) q⟩
/-- e.f in the suite -/
def tXfD (K : PySem.W.Frag) (a : Addr) (cls : Value) (d : Option Addr) (f : Str) (te : TE) : TE := fun σ H Q => ∃ C, XfC K C ∧ PySem.W.findIn K (.ref C) f = some none ∧ tXf a cls d C f te σ H Q
theorem pe_xfD {X : Cx} {a : Addr} {oe : Obj} {cls : Value} {d : Option Addr} {pn : List (Addr × Obj)} {e : Expr} {te : TE} {pos : Pos} {f : Str}
    (hz : L2N.Zn cls d oe) (hf : ∃ vs, oe.data = .fields vs) (he : PE (X.suite a ((a, oe) :: pn)) e te) (hb : attributeBase e f X.env (eval e X.env) = eval e X.env := by rfl) :
    PE (X.suite a ((a, oe) :: pn)) (.Attribute e f pos) (tXfD X.K a cls d f te) := ⟨fun pins s σ H Q I ⟨C, T, hno, h⟩ => (pe_xf T hno hz.zc hf he hb).run pins s σ H Q I h⟩
theorem we_xf {a C : Addr} {dd : Option Addr} {f : Str} (T : XfC G.K C) (hno : PySem.W.findIn G.K (.ref C) f = some none)
    (h : We W E te r m fun d m1 => ∃ ns ds x, d = .exc a dd C ns ds ∧ fix f ns ds = some x ∧ KT' x m1) : We W E (tXfD G.K a (.ref C) dd f te) r m KT' := fun s H Q e z g =>
  ⟨C, T, hno, h s H _ e z fun d m1 v H1 s1 mu1 r1 ⟨ns, ds, x, hd, hx, k⟩ => by
    subst hd
    cases r1 with
    | excN => simp [fix] at hx
    | excS mm hh rf =>
      obtain ⟨y, h1, h2⟩ := rf.look hx
      exact ⟨rfl, rfl, _, _, y, rfl, hh, h1, g x m1 y H1 s1 mu1 h2 k⟩⟩
end
end DL
set_option Elab.async false
set_option linter.all false
set_option maxRecDepth 100000
/-! DL8: the script, the ends, the steps as a word. -/
namespace DL
open PySem PySem.Spec L2
open PyProof.Rows hiding St
theorem hotc {cls : Value} {d : Option Addr} {oe : Obj} (hz : L2N.Zn cls d oe) (hf : ∃ vs, oe.data = .fields vs) : ∃ vs, oe.data = .fields vs ∧ vs[2]? = some .none := by
  obtain ⟨vs, h⟩ := hf
  exact ⟨vs, h, hz.2.2 vs h⟩
/-- the script as the law gets it -/
inductive ScrD (KF : PySem.W.Frag) : D → List Int → Prop
  | lst {ns : List Int} : ScrD KF (.lst (ns.map D.int)) ns
  | ref {a : Addr} {ns : List Int} (h : ∀ H, SqL KF H a (ns.map V.int)) : ScrD KF (.ref a) ns
section
variable {W : WX} {E : ET} {r : Rho} {m : Mu} {K : KT} {G : Gx} {te : TE}
theorem we_slS {tl th : TO} (h : We W E te r m fun d m1 => ∃ ns, ScrD G.K d ns ∧ Wo W E tl r m1 fun lo m2 => Wo W E th r m2 fun hi m3 => K (.lst (cutD (ns.map D.int) lo hi)) m3) : We W E (tSl (rSlL G.K) te tl th) r m K := fun s H Q e z g =>
  h s H _ e z fun d m1 v H1 s1 mu1 r1 ⟨ns, sd, q⟩ => by
    refine q s H1 _ (e.step s1 mu1) (z.step s1) fun lo m2 H2 s2 mu2 q2 => ?_
    refine q2 s H2 _ ((e.step s1 mu1).step s2 mu2) ((z.step s1).step s2) fun hi m3 H3 s3 mu3 k => ?_
    have r3 := (r1.mono s2).mono s3
    cases sd with
    | lst =>
      cases r3 with
      | lst mm hh rs =>
        refine ⟨_, _, rfl, rd_l hh, fun p hp => ?_⟩
        exact g _ m3 _ _ (((s1.trans s2).trans s3).trans (Stp.new hp)) (mu3.new hp) (.lst (fun zz => by obtain ⟨u, hu⟩ := mu3.there zz; rw [hp] at hu; cases hu) (.inl upd_same) ((rs.cut lo hi).mono (Stp.new hp))) k
    | ref h =>
      cases r3
      refine ⟨_, _, rfl, h H3, fun p hp => ?_⟩
      exact g _ m3 _ _ (((s1.trans s2).trans s3).trans (Stp.new hp)) (mu3.new hp) (.lst (fun zz => by obtain ⟨u, hu⟩ := mu3.there zz; rw [hp] at hu; cases hu) (.inl upd_same) (((Reps.ints ns).cut lo hi).mono (Stp.new hp))) k
theorem scr_of {KF : PySem.W.Frag} {H : Hp} {a : Addr} {ns : List Int} (h : SqL KF H a (ns.map V.int)) : ∃ d, ScrD KF d ns ∧ Rep (dom []) H d (.ref a) := by
  rcases h with h | h
  · exact ⟨_, .lst, .lst dom_nil h (Reps.ints ns)⟩
  · exact ⟨_, .ref fun H' => .inr h, .ref a⟩
end
theorem cut63 {xs : List D} (h : xs.length ≤ 63) : cutD xs none (some 63) = xs := by
  unfold cutD
  have e1 : HT.sIx xs.length 0 none = 0 := rfl
  have e2 : HT.sIx xs.length xs.length (some 63) = xs.length := by
    rw [show (some (63 : Int)) = some ((63 : Nat) : Int) from rfl, HT.sIx_nat]
    omega
  rw [e1, e2, List.drop_zero, Nat.sub_zero, List.take_length]

theorem rH {k : Nat} {A : Around} {h : Option Value} (r : L2.Room k A) : L2H.RoomH k (A.mark h) := ⟨r.dp, r.un⟩
/-! ### sizes -/
theorem log2_of {x : Int} {n : Nat} (h : x.natAbs < 2 ^ n) (h0 : 0 < n) : x.natAbs.log2 < n := PySem.Flt.log2_lt_of h0 h
def Bd (n : Nat) (x : Int) : Prop := x.natAbs < 2 ^ n
theorem Bd.mono {a b : Nat} {x : Int} (h : Bd a x) (l : a ≤ b) : Bd b x := Nat.lt_of_lt_of_le h (Nat.pow_le_pow_right (by decide) l)
theorem Bd.mul {a b : Nat} {x y : Int} (h : Bd a x) (k : Bd b y) : Bd (a + b) (x * y) := wide_lt h k
theorem Bd.add {a : Nat} {x y : Int} (h : Bd a x) (k : Bd a y) : Bd (a + 1) (x + y) := by
  unfold Bd at *
  rw [Nat.pow_succ]
  omega
theorem Bd.sub {a : Nat} {x y : Int} (h : Bd a x) (k : Bd a y) : Bd (a + 1) (x - y) := by
  unfold Bd at *
  rw [Nat.pow_succ]
  omega
theorem Bd.neg {a : Nat} {x : Int} (h : Bd a x) : Bd a (-x) := by
  unfold Bd at *
  omega
theorem Bd.ok {a : Nat} {x : Int} (h : Bd a x) : x.natAbs.log2 ≤ a := by
  have := log2_of (n := a + 1) (h.mono (Nat.le_succ a)) (Nat.succ_pos a)
  omega
theorem Bd.mulX {a b : Nat} {x y : Int} (h : Bd a x) (k : Bd b y) (l : a + b < 100000000) : CMulX x y := by
  have := h.ok
  have := k.ok
  unfold CMulX
  omega
theorem Bd.divX {a : Nat} {x y : Int} (h : Bd a y) (n : y ≠ 0) (l : a < 9000) : CDivX x y := ⟨n, .inl (by have := h.ok; omega)⟩
theorem bd_lit {x : Int} {n : Nat} (h : x.natAbs.blt (2 ^ n) = true) : Bd n x := Nat.le_of_ble_eq_true h

/-! ### the pot that a law draws from -/
def PotM (p : Addr) (m0 m : Mu) : Prop := ∃ (cs : List Int) (i r : Int), m = (p, .lst [.lst (cs.map D.int), .int i, .int r]) :: m0 ∧ 0 ≤ i ∧ 0 ≤ r ∧ ∀ c ∈ cs, 0 ≤ c
def S_pot (KF : PySem.W.Frag) : SpecD := fun ds m K _ => ∃ d ns, ds = [d] ∧ ScrD KF d ns ∧ ns.length ≤ 63 ∧ ∀ p m', ¬ dom m p → PotM p m m' → K (.ref p) m'
def S_digit : SpecD := fun ds m K _ => ∃ p many m0, ds = [.ref p, .int many] ∧ 0 < many ∧ Bd 8000 many ∧ PotM p m0 m ∧ ∀ dg m', 0 ≤ dg → dg < many → PotM p m0 m' → K (.int dg) m'

theorem cx_G {G : Gx} {N : List Str} {qual : Str} {st : Stmt} {f : Addr} {cdv : Value} {A : Around} {outer : List Env} {s : Shared} {H : Hp} {F : XK} : Gx.of (cxG G N qual st f cdv A outer s H F) = G := rfl
theorem cx_K {G : Gx} {N : List Str} {qual : Str} {st : Stmt} {f : Addr} {cdv : Value} {A : Around} {outer : List Env} {s : Shared} {H : Hp} {F : XK} : (cxG G N qual st f cdv A outer s H F).K = G.K := rfl
theorem cxH_G {G : Gx} {N : List Str} {qual : Str} {st : Stmt} {f : Addr} {cdv : Value} {A : Around} {outer : List Env} {s : Shared} {H : Hp} {F : XK} {p : Addr × Obj} : Gx.of (cxGH G N qual st f cdv A outer s H F p) = G := rfl
theorem cxH_K {G : Gx} {N : List Str} {qual : Str} {st : Stmt} {f : Addr} {cdv : Value} {A : Around} {outer : List Env} {s : Shared} {H : Hp} {F : XK} {p : Addr × Obj} : (cxGH G N qual st f cdv A outer s H F p).K = G.K := rfl
/-- an item of a list of numbers -/
theorem atI_ints {cs : List Int} {i : Int} (h0 : 0 ≤ i) (h1 : i < (cs.length : Int)) : ∃ c, c ∈ cs ∧ atI (cs.map D.int) i = some (.int c) := by
  obtain ⟨n, rfl⟩ := Int.eq_ofNat_of_zero_le h0
  have hn : n < cs.length := by omega
  refine ⟨cs[n], List.getElem_mem hn, atI_nat ?_⟩
  rw [List.getElem?_map, List.getElem?_eq_getElem hn]
  rfl
theorem use_digit {p : Addr} {many : Int} {m m0 : Mu} {K : KT} {E : Ex → Mu → Prop} (h0 : 0 < many) (hb : Bd 8000 many) (hm : PotM p m0 m) (k : ∀ dg m', 0 ≤ dg → dg < many → PotM p m0 m' → K (.int dg) m') : S_digit [.ref p, .int many] m K E :=
  ⟨p, many, m0, rfl, h0, hb, hm, k⟩

section
variable {W : WX} {E : ET} {r : Rho} {m : Mu} {K : KT} {S : SpecD} {n : Nat} {t : TA} {C : Addr} {G : Gx} {te : TE}
theorem Wa.imp {KA KA' : List D → Mu → Prop} (h : Wa W E t r m KA) (k : ∀ ds m', KA ds m' → KA' ds m') : Wa W E t r m KA' := fun s H Q e z g => h s H Q e z fun ds m' vs H' a b c x => g ds m' vs H' a b c (k ds m' x)
theorem we_cl0 (h : Wa W E t r m fun ds m1 => ds.length = n ∧ S ds m1 K fun x m' => E x r m') : We W E (tCl n S [] W t) r m K :=
  we_cl rfl (h.imp fun ds m' k => by rw [List.append_nil]; exact k)
theorem we_mk0 (h : Wa W E t r m fun ds m1 => ds.length + 1 = n ∧ ∀ x, ¬ dom m1 x →
    S (.ref x :: ds) ((x, .ins C [] []) :: m1) (fun d m2 => ∃ ns fs, d = .non ∧ m2 = (x, .ins C ns fs) :: m1 ∧ K (.ins C ns fs) m1) fun ex m2 => ∃ o, m2 = (x, o) :: m1 ∧ E ex r m1) : We W E (tMk C n S [] W t) r m K :=
  we_mk rfl (h.imp fun ds m' k => by rw [List.append_nil]; exact k)
/-- one more argument by default -/
theorem we_mk1 {d1 : D} (hc : isC d1 = true) (h : Wa W E t r m fun ds m1 => ds.length + 1 + 1 = n ∧ ∀ x, ¬ dom m1 x →
    S (.ref x :: (ds ++ [d1])) ((x, .ins C [] []) :: m1) (fun d m2 => ∃ ns fs, d = .non ∧ m2 = (x, .ins C ns fs) :: m1 ∧ K (.ins C ns fs) m1) fun ex m2 => ∃ o, m2 = (x, o) :: m1 ∧ E ex r m1) : We W E (tMk C n S [d1] W t) r m K :=
  we_mk (by rw [List.all_cons, hc]; rfl) (h.imp fun ds m' k => ⟨by rw [List.length_append]; exact k.1, k.2⟩)
/-- a field of a fixed instance -/
theorem we_fldF {f : Str} (h : We W E te r m fun d m1 => ∃ C ns ds x, d = .ins C ns ds ∧ Cls G.K C ∧ NoAttr G.K C f ∧ fix f ns ds = some x ∧ K x m1) : We W E (tFld G.K te f) r m K :=
  we_fld (h.imp fun d m1 ⟨C, ns, ds, x, hd, q⟩ => ⟨C, ns, ds, x, by rw [hd]; exact .fixed, q⟩)
end
/-! ### Ratio: top, bottom -/
abbrev rat (C : Addr) (t b : Int) : D := .ins C ["top", "bottom"] [.int t, .int b]
theorem fix_top {a b : D} : fix "top" ["top", "bottom"] [a, b] = some a := by simp [fix]
theorem nbt : ¬ (("bottom" : Str) = "top") := by decide +kernel
theorem ntb : ¬ (("top" : Str) = "bottom") := by decide +kernel
theorem fix_bottom {a b : D} : fix "bottom" ["top", "bottom"] [a, b] = some b := by simp [fix, nbt]
structure RatC (K : PySem.W.Frag) (C : Addr) : Prop where
  ins : InsK K C
  at_ : NoAttr K C "top"
  ab : NoAttr K C "bottom"
section
variable {K : PySem.W.Frag} {KK : D → Prop} {C : Addr} {t b : Int}
theorem fld_top (R : RatC K C) (h : KK (.int t)) : ∃ C' ns ds x, rat C t b = .ins C' ns ds ∧ Cls K C' ∧ NoAttr K C' "top" ∧ fix "top" ns ds = some x ∧ KK x := ⟨_, _, _, _, rfl, R.ins.cl, R.at_, fix_top, h⟩
theorem fld_bottom (R : RatC K C) (h : KK (.int b)) : ∃ C' ns ds x, rat C t b = .ins C' ns ds ∧ Cls K C' ∧ NoAttr K C' "bottom" ∧ fix "bottom" ns ds = some x ∧ KK x := ⟨_, _, _, _, rfl, R.ins.cl, R.ab, fix_bottom, h⟩
end

theorem kit_ii {K : PySem.W.Frag} : PySem.W.kitOne K (.type "int") (.type "int") = some true := kit_ty (by decide +kernel)
theorem kit_ib {K : PySem.W.Frag} : PySem.W.kitOne K (.type "int") (.type "bool") = some false := kit_ty (by decide +kernel)
section
variable {K : PySem.W.Frag} {C : Addr} {m0 : Mu} {x : Addr} {d e : D} {N : Mu → Prop}
theorem cont_tb : (["top"] : List Str).contains "bottom" = false := by decide +kernel
theorem setN_top (R : RatC K C) (h : N ((x, .ins C ["top"] [d]) :: m0)) : ∃ p C' ns ds m3, D.ref x = .ref p ∧ At ((x, MO.ins C [] []) :: m0) p (.ins C' ns ds) ∧ Cls K C' ∧ NoAttr K C' "top" ∧ ns.contains "top" = false ∧ Nat.ble ns.length 900 = true ∧ Put ((x, MO.ins C [] []) :: m0) p (.ins C' (ns ++ [("top" : Str)]) (ds ++ [d])) m3 ∧ N m3 :=
  ⟨_, _, _, _, _, rfl, .head, R.ins.cl, R.at_, rfl, rfl, .head, h⟩
theorem setN_bottom (R : RatC K C) (h : N ((x, .ins C ["top", "bottom"] [d, e]) :: m0)) : ∃ p C' ns ds m3, D.ref x = .ref p ∧ At ((x, MO.ins C ["top"] [d]) :: m0) p (.ins C' ns ds) ∧ Cls K C' ∧ NoAttr K C' "bottom" ∧ ns.contains "bottom" = false ∧ Nat.ble ns.length 900 = true ∧ Put ((x, MO.ins C ["top"] [d]) :: m0) p (.ins C' (ns ++ [("bottom" : Str)]) (ds ++ [e])) m3 ∧ N m3 :=
  ⟨_, _, _, _, _, rfl, .head, R.ins.cl, R.ab, cont_tb, rfl, .head, h⟩
end
/-- what is left mutable at a return is let go -/
theorem MutR.dropn {H : Hp} : ∀ {m : Mu} (k : Nat), MutR m H → MutR (m.drop k) H
  | _, 0, h => h
  | [], _ + 1, h => h
  | _ :: m, k + 1, h => MutR.dropn (m := m) k h.drop
theorem dom_dropn {a : Addr} : ∀ {m : Mu} (k : Nat), dom (m.drop k) a → dom m a
  | _, 0, h => h
  | [], _ + 1, h => h
  | _ :: m, k + 1, h => dom_cons.mpr (.inr (dom_dropn (m := m) k h))
theorem Ws.shed {W : WX} {E : ET} {t : TS} {r : Rho} {m : Mu} {P : DEnds} (h : Ws W E t r m { P with rt := fun d m' => ∃ k, P.rt d (m'.drop k) }) : Ws W E t r m P := fun s H De e z g =>
  h s H De e z ⟨g.nx, fun d m' v H' a b c ⟨k, q⟩ => by
    have ls : Stp (dom m') H' (dom (m'.drop k)) H' := Stp.less fun a z => dom_dropn k z
    exact g.rt d _ v H' (a.trans ls) (b.dropn k) (c.mono ls) q, g.bk, g.ct⟩
/-- a list of a function's values, from the end -/
theorem atI_neg {α : Type} {xs : List α} {n : Nat} {v : α} (h0 : 0 < n) (hn : n ≤ xs.length) (h : xs[xs.length - n]? = some v) : atI xs (-(n : Int)) = some v := by
  unfold atI ixN
  rw [if_neg (by omega), if_pos (by omega)]
  have e : (-(n : Int) + (xs.length : Int)).toNat = xs.length - n := by omega
  rw [e]
  exact h
theorem range_at {f : Nat → D} {n i : Nat} (h : i < n) : ((List.range n).map f)[i]? = some (f i) := by
  rw [List.getElem?_map, List.getElem?_range h]
  rfl
theorem range_m1 {f : Nat → D} (k : Nat) : atI ((List.range (k + 1)).map f) (-1) = some (f k) :=
  atI_neg (n := 1) (by omega) (by simp) (by simp only [List.length_map, List.length_range]; exact range_at (by omega))
theorem range_m2 {f : Nat → D} (k : Nat) : atI ((List.range (k + 2)).map f) (-2) = some (f k) :=
  atI_neg (n := 2) (by omega) (by simp) (by simp only [List.length_map, List.length_range]; exact range_at (by omega))
theorem range_snoc {f : Nat → D} (k : Nat) : (List.range k).map f ++ [f k] = (List.range (k + 1)).map f := by
  rw [List.range_succ, List.map_append]
  rfl
theorem pe_gcD {X : Cx} {x : Str} {v : V} {pos : Pos} (hg : Gl X x) (h : ∃ u, X.mg x = some u ∧ RelV v u) (hd : (x == ("__debug__" : Str)) = false := by decide) : PE X (.Name x pos) (tC v) := by
  obtain ⟨u, hm, r⟩ := h
  exact pe_glob hg hm r hd
/-! ### the end -/
def S_law (KF : PySem.W.Frag) : SpecD := fun ds m KK _ => ∃ d ns, ds = [d] ∧ ScrD KF d ns ∧ ns.length ≤ 63 ∧ (∀ z ∈ ns, Builtin.Int.intBits z ≤ 1048576) ∧ m = [] ∧ ∀ m', KK (.bl true) m'
theorem walkB {l : PySem.W.OpenLaw} {k : Nat} {q : Program} {loose : List Str} {XP : (Str → Option Value) → Heap → Prop} {YP : World → Heap → Prop} {d : DefRec} {K : Params → PySem.W.Frag} {x : Str}
    (hn : l.most = some 63) (hdf : d.params.defaults = []) (hr : Room k callerA)
    (hY : ∀ (w : World) (h : Heap), YP w h → (K w.params).In h)
    (F : ∀ (w : World) (mg : Str → Option Value) (fa : Addr) (h : Heap), (K w.params).In h → h.Ns mainGlobals mg → mg d.name = some (.ref fa) →
      ∃ fd : FuncData, (∀ (s : Shared) (u : Value), BindsTo s fd ⟨[u], []⟩ [(x, u)]) ∧
        ∀ base : Heap, (K w.params).In base → base.Ns mainGlobals mg → FnOk l.prog w (K w.params) mg base (L2N.CX l.prog w) k fa fd [x] (spD 1 (S_law (K w.params)))) :
    PySem.W.WalkO q loose XP YP l.row.toRowW d [] (fun f vs => PySem.call f vs) :=
  L2.walk_ofB (n := 63) (k := k) (x := x) (CX := fun w => L2N.CX l.prog w) (sp := fun w => spD 1 (S_law (K w.params))) hn (by decide) hdf hr hY F
    (fun w H a ns hl hb _ h => by
      obtain ⟨dd, sd, rp⟩ := scr_of h
      exact ⟨[dd], [], fun d' _ => d' = .bl true, fun _ _ => False, rfl, .cons rp .nil, MutR.nil H, ⟨dd, ns, rfl, sd, hl, hb, rfl, fun m' => rfl⟩, fun d' m' v H' _ _ rp' e => by subst e; cases rp'; rfl, fun _ _ _ _ _ _ _ _ e => e.elim⟩)
    fun w H s e s' z => by
      obtain ⟨_, _, _, _, _, _, _, _, _, _, _, _, z⟩ := z
      exact z.elim
end DL
set_option Elab.async false
set_option linter.all false
set_option maxRecDepth 100000
set_option maxHeartbeats 4000000
/-! The head by one kernel run (HandS.Head3), its facts by a Hook over the whole heap. -/
namespace DL
open PySem PySem.Spec L2 PyProof.Rows
/-! ### what is looked at -/
def allG (g : Addr → Option Obj) (n : Nat) : PySem.W.Frag := He.frG g (mainGlobals :: cStatics :: (List.range n).reverse)
structure Fd where
  at_ : PySem.W.Frag → Addr
  name : Str
  qual : Str
  params : Arguments
  body : List Stmt
  scope : Scope
def fobs (K : PySem.W.Frag) (a : Addr) : He.FnW := match K.lookup a with
  | some ⟨_, _, .func fd, _⟩ => some (fd.name, fd.qualname, fd.params, fd.body, fd.scope, fd.globals, fd.closure, fd.builtins)
  | _ => none
def Fd.val (d : Fd) : He.FnW := some (d.name, d.qual, d.params, .stmts d.body, d.scope, mainGlobals, [], builtinsNs)
/-- a def at a: no defaults, its code -/
def fokN (K : PySem.W.Frag) (a : Addr) (q : Str) : Bool := match K.lookup a with
  | some ⟨_, _, .func fd, _⟩ => (match fd.defaults with
    | .none => true
    | _ => false) && PySem.W.codeIn K fd.code q
  | _ => false
/-- .. one default, the number i -/
def fok1 (K : PySem.W.Frag) (a : Addr) (q : Str) (i : Int) : Bool := match K.lookup a with
  | some ⟨_, _, .func fd, _⟩ => (match fd.defaults with
    | .ref T => (match K.lookup T with
      | some ⟨_, _, .seq its _, _⟩ => (match its.toList with
        | [.int j _] => decide (j = i)
        | _ => false)
      | _ => false)
    | _ => false) && PySem.W.codeIn K fd.code q
  | _ => false
/-- a number, a text of the module -/
def intB (K : PySem.W.Frag) (x : Str) (i : Int) : Bool := match PySem.W.nsIn K mainGlobals x with
  | some (some (.int j _)) => decide (j = i)
  | _ => false
def strB (K : PySem.W.Frag) (x z : Str) : Bool := match PySem.W.nsIn K mainGlobals x with
  | some (some (.str y _)) => decide (y = z)
  | _ => false
/-- an own error's class -/
def excB (K : PySem.W.Frag) (C : Addr) : Bool := match K.lookup C with
  | some ⟨.type "type", _, .cls cd, sl⟩ => (match cd.mro, sl.toList with
    | .ref C' :: bm, [_, _, _, _, some (.builtin n), _] => C' == C && (n == "ValueError.__new__" && (!cd.hasDel && (cd.hasDict && PySem.HandSPX.refsVE bm)))
    | _, _ => false)
  | _ => false
/-- a static or a class method: the descriptor, the def -/
def stP (K : PySem.W.Frag) (C : Addr) (m : Str) : Addr := match PySem.W.findCls K (.ref C) (.type "type") m with
  | some (.get _ (.ref p) _ _) => p
  | _ => 0
def stB (K : PySem.W.Frag) (C : Addr) (m : Str) (g : String) : Bool := match PySem.W.findCls K (.ref C) (.type "type") m with
  | some (.get g' (.ref _) o t) => decide (g' = .builtin g) && (decide (o = .none) && decide (t = .ref C))
  | _ => false
def stF (K : PySem.W.Frag) (C : Addr) (m : Str) (T : String) : Addr := match PySem.W.recIn K (stP K C m) T with
  | some (.ref f :: _) => f
  | _ => 0
def stR (K : PySem.W.Frag) (C : Addr) (m : Str) (T : String) : Bool := match PySem.W.recIn K (stP K C m) T with
  | some (.ref _ :: _) => true
  | _ => false
section
variable {K : PySem.W.Frag}
theorem fn_of {a : Addr} {n q : Str} {ps : Arguments} {b : List Stmt} {sc : Scope} (e : fobs K a = some (n, q, ps, .stmts b, sc, mainGlobals, [], builtinsNs)) (c : fokN K a q = true) :
    ∃ oc od osl kV doc pm an cdv ct, K.lookup a = some ⟨oc, od, .func (PySem.W.fnOf n q ps b sc .none kV doc pm an cdv ct), osl⟩ ∧ PySem.W.codeIn K cdv q = true := by
  unfold fobs at e
  unfold fokN at c
  cases h : K.lookup a with
  | none =>
    rw [h] at c
    cases c
  | some o =>
    obtain ⟨oc, od, dt, osl⟩ := o
    rw [h] at c e
    cases dt with
    | func fd =>
      obtain ⟨n1, n2, n3, n4, n5, n6, n7, n8, n9, n10, n11, n12, n13, n14, n15⟩ := fd
      have e2 : (some (n1, n2, n3, n4, n5, n6, n7, n15) : He.FnW) = some (n, q, ps, .stmts b, sc, mainGlobals, [], builtinsNs) := e
      simp only [Option.some.injEq, Prod.mk.injEq] at e2
      obtain ⟨h1, h2, h3, h4, h5, h6, h7, h8⟩ := e2
      subst h1 h2 h3 h4 h5 h6 h7 h8
      obtain ⟨c1, c2⟩ := He.ba c
      cases n8 with
      | none => exact ⟨oc, od, osl, n9, n10, n11, n12, n13, n14, rfl, c2⟩
      | _ => cases c1
    | _ => cases c
theorem one_of {i : Int} : ∀ {l : List Value}, (match l with
    | [.int j _] => decide (j = i)
    | _ => false) = true → ∃ tk, l = [.int i tk]
  | [.int j tk], c => ⟨tk, by rw [of_decide_eq_true (show decide (j = i) = true from c)]⟩
theorem fn_of1 {a : Addr} {n q : Str} {ps : Arguments} {b : List Stmt} {sc : Scope} {i : Int} (e : fobs K a = some (n, q, ps, .stmts b, sc, mainGlobals, [], builtinsNs)) (c : fok1 K a q i = true) :
    ∃ oc od osl kV doc pm an cdv ct T tk oT nT sT cT, K.lookup a = some ⟨oc, od, .func (PySem.W.fnOf n q ps b sc (.ref T) kV doc pm an cdv ct), osl⟩ ∧ K.lookup T = some ⟨cT, oT, .seq [Value.int i tk].toArray nT, sT⟩ ∧ PySem.W.codeIn K cdv q = true := by
  unfold fobs at e
  unfold fok1 at c
  cases h : K.lookup a with
  | none =>
    rw [h] at c
    cases c
  | some o =>
    obtain ⟨oc, od, dt, osl⟩ := o
    rw [h] at c e
    cases dt with
    | func fd =>
      obtain ⟨n1, n2, n3, n4, n5, n6, n7, n8, n9, n10, n11, n12, n13, n14, n15⟩ := fd
      have e2 : (some (n1, n2, n3, n4, n5, n6, n7, n15) : He.FnW) = some (n, q, ps, .stmts b, sc, mainGlobals, [], builtinsNs) := e
      simp only [Option.some.injEq, Prod.mk.injEq] at e2
      obtain ⟨h1, h2, h3, h4, h5, h6, h7, h8⟩ := e2
      subst h1 h2 h3 h4 h5 h6 h7 h8
      obtain ⟨c1, c2⟩ := He.ba c
      cases n8 with
      | ref T =>
        dsimp only at c1
        cases hT : K.lookup T with
        | none =>
          rw [hT] at c1
          cases c1
        | some oT =>
          obtain ⟨cT, dT, tT, sT⟩ := oT
          rw [hT] at c1
          cases tT with
          | seq its nT =>
            obtain ⟨tk, e⟩ := one_of (l := its.toList) c1
            obtain ⟨its⟩ := its
            have e' : its = [.int i tk] := e
            subst e'
            exact ⟨oc, od, osl, n9, n10, n11, n12, n13, n14, T, tk, dT, nT, sT, cT, rfl, hT, c2⟩
          | _ => cases c1
      | _ => cases c1
    | _ => cases c
theorem intB_ok {x : Str} {i : Int} (c : intB K x i = true) : ∃ t, PySem.W.nsIn K mainGlobals x = some (some (.int i t)) := by
  unfold intB at c
  split at c
  · rename_i j t e
    rw [← of_decide_eq_true c]
    exact ⟨t, e⟩
  · cases c
theorem strB_ok {x z : Str} (c : strB K x z = true) : ∃ t, PySem.W.nsIn K mainGlobals x = some (some (.str z t)) := by
  unfold strB at c
  split at c
  · rename_i j t e
    rw [← of_decide_eq_true c]
    exact ⟨t, e⟩
  · cases c
theorem excB_ok {C : Addr} (q : excB K C = true) : ∃ nm q N bs bm sn sub ab col dd k0 k1 k2 k3 k5, K.lookup C = some (excClassObj nm q C N bs bm true sn sub ab col dd k0 k1 k2 k3 k5 "ValueError.__new__") ∧ PySem.HandSPX.refsVE bm = true := by
  unfold excB at q
  split at q
  · rename_i dd cd sl ho
    split at q
    · rename_i C' bm k0 k1 k2 k3 n k5 hm hs
      simp only [Bool.and_eq_true, beq_iff_eq, Bool.not_eq_true'] at q
      obtain ⟨rfl, rfl, hdel, hd, hr⟩ := q
      obtain ⟨nm, bs, mro, ns, qn, hdc, sn, sub, ab, col, del⟩ := cd
      dsimp only at hm hdel hd
      subst hm hdel hd
      have hsl : sl = #[k0, k1, k2, k3, some (.builtin "ValueError.__new__"), k5] := by
        obtain ⟨l⟩ := sl
        simp only at hs
        rw [hs]
      subst hsl
      exact ⟨nm, qn, ns, bs, bm, sn, sub, ab, col, dd, k0, k1, k2, k3, k5, ho, hr⟩
    · cases q
  · cases q
theorem stB_ok {C : Addr} {m : Str} {g : String} (c : stB K C m g = true) : PySem.W.findCls K (.ref C) (.type "type") m = some (.get (.builtin g) (.ref (stP K C m)) .none (.ref C)) := by
  unfold stB at c
  unfold stP
  split at c
  · rename_i g' p o t e
    obtain ⟨c1, c2⟩ := He.ba c
    obtain ⟨c3, c4⟩ := He.ba c2
    rw [e, of_decide_eq_true c1, of_decide_eq_true c3, of_decide_eq_true c4]
  · cases c
theorem stR_ok {C : Addr} {m : Str} {T : String} (c : stR K C m T = true) : ∃ rr, PySem.W.recIn K (stP K C m) T = some (.ref (stF K C m T) :: rr) := by
  unfold stR at c
  unfold stF
  split at c
  · rename_i f rr e
    rw [e]
    exact ⟨rr, rfl⟩
  · cases c
end
/-! ### the Hook -/
abbrev AlF : Type := Bool × List He.FnW
def obsF (cs : List (PySem.W.Frag → Bool)) (fn : List Fd) (K : PySem.W.Frag) : AlF := (cs.all fun c => c K, fn.map fun d => fobs K (d.at_ K))
def valF (fn : List Fd) : AlF := (true, fn.map Fd.val)
def SaysF (cs : List (PySem.W.Frag → Bool)) (fn : List Fd) (K : PySem.W.Frag) : Prop := obsF cs fn K = valF fn
def hookF (cs : List (PySem.W.Frag → Bool)) (fn : List Fd) : PySem.W.Hook where
  α := AlF
  obs := fun s => obsF cs fn (allG s.heap.get? s.heap.objs.size)
  val := fun _ => valF fn
  says := fun _ h => ∃ K : PySem.W.Frag, K.In h ∧ SaysF cs fn K
  of := fun _ _ e => ⟨_, He.frG_in, e⟩
  keeps := fun _ _ _ ⟨K, hK, c⟩ k => ⟨K, PySem.W.Frag.In.keeps hK k, c⟩
def obF (cs : List (PySem.W.Frag → Bool)) (fn : List Fd) (s : PySem.W.SharedT) : AlF := obsF cs fn (allG (HandSHeadRun.getT s) s.n)
theorem obF_eq {cs : List (PySem.W.Frag → Bool)} {fn : List Fd} (s : PySem.W.SharedT) : obF cs fn s = (hookF cs fn).obs s.abs := by
  show obsF cs fn (allG (HandSHeadRun.getT s) s.n) = obsF cs fn (allG s.abs.heap.get? s.abs.heap.objs.size)
  rw [show HandSHeadRun.getT s = s.abs.heap.get? from funext (HandSHeadRun.getT_eq s), show s.abs.heap.objs.size = s.n from PySem.W.absHeap_size _ _ _]
section
variable {cs : List (PySem.W.Frag → Bool)} {fs : List Fd} {K : PySem.W.Frag}
theorem SaysF.fact (c : SaysF cs fs K) (i : Nat) {f : PySem.W.Frag → Bool} (h : cs[i]? = some f) : f K = true := by
  have c1 : (cs.all fun c => c K) = true := congrArg (fun z : AlF => z.1) c
  exact List.all_eq_true.mp c1 f (List.mem_of_getElem? h)
theorem SaysF.fnE (c : SaysF cs fs K) (i : Nat) {d : Fd} (h : fs[i]? = some d) : fobs K (d.at_ K) = d.val := by
  have e : fs.map (fun d => fobs K (d.at_ K)) = fs.map Fd.val := congrArg (fun z : AlF => z.2) c
  have e2 : (fs.map fun d => fobs K (d.at_ K))[i]? = (fs.map Fd.val)[i]? := by rw [e]
  rw [List.getElem?_map, List.getElem?_map, h] at e2
  exact Option.some.inj e2
theorem SaysF.fn (c : SaysF cs fs K) (i : Nat) {at_ : PySem.W.Frag → Addr} {n q : Str} {ps : Arguments} {b : List Stmt} {sc : Scope} (h : fs[i]? = some ⟨at_, n, q, ps, b, sc⟩) (k : fokN K (at_ K) q = true) :
    ∃ oc od osl kV doc pm an cdv ct, K.lookup (at_ K) = some ⟨oc, od, .func (PySem.W.fnOf n q ps b sc .none kV doc pm an cdv ct), osl⟩ ∧ PySem.W.codeIn K cdv q = true := fn_of (c.fnE i h) k
theorem SaysF.fn1 (c : SaysF cs fs K) (i : Nat) {at_ : PySem.W.Frag → Addr} {n q : Str} {ps : Arguments} {b : List Stmt} {sc : Scope} {j : Int} (h : fs[i]? = some ⟨at_, n, q, ps, b, sc⟩) (k : fok1 K (at_ K) q j = true) :
    ∃ oc od osl kV doc pm an cdv ct T tk oT nT sT cT, K.lookup (at_ K) = some ⟨oc, od, .func (PySem.W.fnOf n q ps b sc (.ref T) kV doc pm an cdv ct), osl⟩ ∧ K.lookup T = some ⟨cT, oT, .seq [Value.int j tk].toArray nT, sT⟩ ∧ PySem.W.codeIn K cdv q = true := fn_of1 (c.fnE i h) k
end
/-! ### the law -/
theorem walkE {l : PySem.W.OpenLaw} {k : Nat} {q : Program} {loose : List Str} {XP : (Str → Option Value) → Heap → Prop} {YP : World → Heap → Prop} {d : DefRec} {x : Str}
    (hn : l.most = some 63) (hdf : d.params.defaults = []) (hr : Room k callerA)
    (F : ∀ (w : World) (mg : Str → Option Value) (fa : Addr) (h : Heap), YP w h → h.Ns mainGlobals mg → mg d.name = some (.ref fa) →
      ∃ K : PySem.W.Frag, K.In h ∧ ∃ fd : FuncData, (∀ (s : Shared) (u : Value), BindsTo s fd ⟨[u], []⟩ [(x, u)]) ∧
        ∀ base : Heap, K.In base → base.Ns mainGlobals mg → FnOk l.prog w K mg base (L2N.CX l.prog w) k fa fd [x] (spD 1 (S_law K))) :
    PySem.W.WalkO q loose XP YP l.row.toRowW d [] (fun f vs => PySem.call f vs) := by
  refine Att.attach_callB (n := 63) hn hdf fun w s₀ s₁ mg mb fa o pm cd doc a vs ns G Y ho hd hcd hmg hobj hints hlen hbits hg => ?_
  obtain ⟨K, KX, fd, hb, hF⟩ := F w mg fa _ Y G.T.g hmg
  refine law_call KX G.T.g G.T.b G.T.builtins G.T.nolimit hg hobj hints (Nat.le_trans hlen (by decide)) hr hF hb (fun H hO hS => ?_) fun H e s' z => ?_
  · obtain ⟨dd, sd, rp⟩ := scr_of hS
    exact ⟨[dd], [], fun d' _ => d' = .bl true, fun _ _ => False, rfl, .cons rp .nil, MutR.nil H, ⟨dd, ns, rfl, sd, hlen, hbits, rfl, fun m' => rfl⟩, fun d' m' v H' _ _ rp' e => by subst e; cases rp'; rfl, fun _ _ _ _ _ _ _ _ e => e.elim⟩
  · obtain ⟨_, _, _, _, _, _, _, _, _, _, _, _, z⟩ := z
    exact z.elim
end DL
set_option Elab.async false
set_option linter.all false
set_option maxRecDepth 100000
set_option maxHeartbeats 0
namespace K22R
open PySem PySem.Spec PyProof.Rows L2 DL

def top (i : Nat) : Stmt := PySem.Challenge.pw_fewcarry_k22_condensed.main.body.getD i (.Pass ⟨0, 0, 0, 0⟩)
abbrev s_Ratio___init__ : Stmt := inClass (top 25) 0
abbrev s_Ratio_sign : Stmt := inClass (top 25) 13
abbrev s_Ratio_raised : Stmt := inClass (top 25) 10
abbrev s_Ratio___add__ : Stmt := inClass (top 25) 4
abbrev s_Ratio___mul__ : Stmt := inClass (top 25) 6
abbrev s_Ratio___pow__ : Stmt := inClass (top 25) 9
abbrev s_row_times : Stmt := top 29
abbrev s_is_label : Stmt := top 20
abbrev s_Load___init__ : Stmt := inClass (top 30) 0
abbrev s_Book___init__ : Stmt := inClass (top 52) 0
abbrev s_Book___len__ : Stmt := inClass (top 52) 3
abbrev s__whole_weights : Stmt := top 53
abbrev s_Book_energy : Stmt := inClass (top 52) 12
abbrev s__split : Stmt := top 56
abbrev s_condensed : Stmt := top 55
abbrev s__law_digit : Stmt := top 58
abbrev s__law_draw_labels : Stmt := top 59
abbrev s__law_draw_weight : Stmt := top 60
abbrev s__law_draw_base : Stmt := top 61
abbrev s__law_draw_rows : Stmt := top 62
abbrev s__law_draw_direction : Stmt := top 63
abbrev s__law_whole : Stmt := top 64
abbrev s__law_gcd : Stmt := top 65
abbrev s__law_alike : Stmt := top 66
abbrev s__law_own_energy : Stmt := top 67
abbrev s__law_made : Stmt := top 68
abbrev s__law_numbers_told : Stmt := top 69
abbrev s__law_load_told : Stmt := top 70
abbrev s__law_same : Stmt := top 71
abbrev s__law_parallel : Stmt := top 72
abbrev s__law_own_condensed : Stmt := top 73
abbrev s_law : Stmt := top 74
abbrev s_OutOfBounds___init__ : Stmt := inClass (top 5) 0
abbrev rowH : PySem.W.OpenRow := PySem.W.OpenLaw.row PySem.Challenge.rw_fewcarry_k22_condensed
abbrev viewH : Program := PySem.W.view rowH.prog [0, 74]
def looseH : List Str := (["_wall", "__name__", "CarryError", "ZeroBottom", "OutOfBounds", "BadNumber", "BadShape", "BadPlace", "BadLabel", "TwinLabel", "NoLabel", "BadWeight", "TooMany", "BadBook", "DIGITS", "LETTERS", "LONGEST_LABEL", "MOST_DIGITS", "is_label", "whole_of", "MOST_CHARACTERS", "MOST_EXPONENT", "Ratio", "MOST_NUMBERS", "LARGEST", "row_times", "Load", "MOST_PLACES", "_check_shape", "_common_divisor"] : List Str) ++ (["_combined", "Grid", "_first_filled", "_cleared", "pivot_columns", "independent_columns", "FIRST_WORD", "MOST_LOADS", "book_text", "_load_line", "read_book_lines", "_width_in", "_load_in", "Book", "_whole_weights", "condensed", "_split", "_law_digit", "_law_draw_labels", "_law_draw_weight", "_law_draw_base", "_law_draw_rows", "_law_draw_direction", "_law_whole", "_law_gcd", "_law_alike", "_law_own_energy", "_law_made", "_law_numbers_told", "_law_load_told"] : List Str) ++ (["_law_same", "_law_parallel", "_law_own_condensed"] : List Str)
def fnsH0 : List DL.Fd := [
  ⟨fun K => (He.ma K (He.ga K "Ratio") "__init__"), "__init__", "Ratio.__init__", defArgs s_Ratio___init__, defBody s_Ratio___init__, defScope s_Ratio___init__⟩,
  ⟨fun K => (He.ma K (He.ga K "Ratio") "sign"), "sign", "Ratio.sign", defArgs s_Ratio_sign, defBody s_Ratio_sign, defScope s_Ratio_sign⟩,
  ⟨fun K => (He.ma K (He.ga K "Ratio") "raised"), "raised", "Ratio.raised", defArgs s_Ratio_raised, defBody s_Ratio_raised, defScope s_Ratio_raised⟩,
  ⟨fun K => (He.ma K (He.ga K "Ratio") "__add__"), "__add__", "Ratio.__add__", defArgs s_Ratio___add__, defBody s_Ratio___add__, defScope s_Ratio___add__⟩,
  ⟨fun K => (He.ma K (He.ga K "Ratio") "__mul__"), "__mul__", "Ratio.__mul__", defArgs s_Ratio___mul__, defBody s_Ratio___mul__, defScope s_Ratio___mul__⟩,
  ⟨fun K => (He.ma K (He.ga K "Ratio") "__pow__"), "__pow__", "Ratio.__pow__", defArgs s_Ratio___pow__, defBody s_Ratio___pow__, defScope s_Ratio___pow__⟩,
  ⟨fun K => (He.ga K "row_times"), "row_times", "row_times", defArgs s_row_times, defBody s_row_times, defScope s_row_times⟩,
  ⟨fun K => (He.ga K "is_label"), "is_label", "is_label", defArgs s_is_label, defBody s_is_label, defScope s_is_label⟩,
  ⟨fun K => (He.ma K (He.ga K "Load") "__init__"), "__init__", "Load.__init__", defArgs s_Load___init__, defBody s_Load___init__, defScope s_Load___init__⟩,
  ⟨fun K => (He.ma K (He.ga K "Book") "__init__"), "__init__", "Book.__init__", defArgs s_Book___init__, defBody s_Book___init__, defScope s_Book___init__⟩,
  ⟨fun K => (He.ma K (He.ga K "Book") "__len__"), "__len__", "Book.__len__", defArgs s_Book___len__, defBody s_Book___len__, defScope s_Book___len__⟩,
  ⟨fun K => (He.ga K "_whole_weights"), "_whole_weights", "_whole_weights", defArgs s__whole_weights, defBody s__whole_weights, defScope s__whole_weights⟩,
  ⟨fun K => (He.ma K (He.ga K "Book") "energy"), "energy", "Book.energy", defArgs s_Book_energy, defBody s_Book_energy, defScope s_Book_energy⟩,
  ⟨fun K => (He.ga K "_split"), "_split", "_split", defArgs s__split, defBody s__split, defScope s__split⟩,
  ⟨fun K => (He.ga K "condensed"), "condensed", "condensed", defArgs s_condensed, defBody s_condensed, defScope s_condensed⟩,
  ⟨fun K => (He.ga K "_law_digit"), "_law_digit", "_law_digit", defArgs s__law_digit, defBody s__law_digit, defScope s__law_digit⟩,
  ⟨fun K => (He.ga K "_law_draw_labels"), "_law_draw_labels", "_law_draw_labels", defArgs s__law_draw_labels, defBody s__law_draw_labels, defScope s__law_draw_labels⟩,
  ⟨fun K => (He.ga K "_law_draw_weight"), "_law_draw_weight", "_law_draw_weight", defArgs s__law_draw_weight, defBody s__law_draw_weight, defScope s__law_draw_weight⟩,
  ⟨fun K => (He.ga K "_law_draw_base"), "_law_draw_base", "_law_draw_base", defArgs s__law_draw_base, defBody s__law_draw_base, defScope s__law_draw_base⟩,
  ⟨fun K => (He.ga K "_law_draw_rows"), "_law_draw_rows", "_law_draw_rows", defArgs s__law_draw_rows, defBody s__law_draw_rows, defScope s__law_draw_rows⟩]
def fnsH1 : List DL.Fd := [
  ⟨fun K => (He.ga K "_law_draw_direction"), "_law_draw_direction", "_law_draw_direction", defArgs s__law_draw_direction, defBody s__law_draw_direction, defScope s__law_draw_direction⟩,
  ⟨fun K => (He.ga K "_law_whole"), "_law_whole", "_law_whole", defArgs s__law_whole, defBody s__law_whole, defScope s__law_whole⟩,
  ⟨fun K => (He.ga K "_law_gcd"), "_law_gcd", "_law_gcd", defArgs s__law_gcd, defBody s__law_gcd, defScope s__law_gcd⟩,
  ⟨fun K => (He.ga K "_law_alike"), "_law_alike", "_law_alike", defArgs s__law_alike, defBody s__law_alike, defScope s__law_alike⟩,
  ⟨fun K => (He.ga K "_law_own_energy"), "_law_own_energy", "_law_own_energy", defArgs s__law_own_energy, defBody s__law_own_energy, defScope s__law_own_energy⟩,
  ⟨fun K => (He.ga K "_law_made"), "_law_made", "_law_made", defArgs s__law_made, defBody s__law_made, defScope s__law_made⟩,
  ⟨fun K => (He.ga K "_law_numbers_told"), "_law_numbers_told", "_law_numbers_told", defArgs s__law_numbers_told, defBody s__law_numbers_told, defScope s__law_numbers_told⟩,
  ⟨fun K => (He.ga K "_law_load_told"), "_law_load_told", "_law_load_told", defArgs s__law_load_told, defBody s__law_load_told, defScope s__law_load_told⟩,
  ⟨fun K => (He.ga K "_law_same"), "_law_same", "_law_same", defArgs s__law_same, defBody s__law_same, defScope s__law_same⟩,
  ⟨fun K => (He.ga K "_law_parallel"), "_law_parallel", "_law_parallel", defArgs s__law_parallel, defBody s__law_parallel, defScope s__law_parallel⟩,
  ⟨fun K => (He.ga K "_law_own_condensed"), "_law_own_condensed", "_law_own_condensed", defArgs s__law_own_condensed, defBody s__law_own_condensed, defScope s__law_own_condensed⟩,
  ⟨fun K => (He.ga K "law"), "law", "law", defArgs s_law, defBody s_law, defScope s_law⟩,
  ⟨fun K => (He.ma K (He.ga K "OutOfBounds") "__init__"), "__init__", "OutOfBounds.__init__", defArgs s_OutOfBounds___init__, defBody s_OutOfBounds___init__, defScope s_OutOfBounds___init__⟩]
def fnsH : List DL.Fd := fnsH0 ++ fnsH1
abbrev PcH0 (K : PySem.W.Frag) : Prop :=
  PySem.W.nsIn K mainGlobals "Ratio" = some (some (.ref (He.ga K "Ratio"))) ∧
  PySem.W.plainGet K (He.ga K "Ratio") Str.empty = true ∧
  PySem.W.hasDictIn K (He.ga K "Ratio") = true ∧
  PySem.W.plainOver K (He.ga K "Ratio") = true ∧
  PySem.W.findIn K (.ref (He.ga K "Ratio")) "__setattr__" = some (some (.builtin "object.__setattr__")) ∧
  PySem.W.makesIn K (He.ga K "Ratio") = true ∧
  PySem.W.selfFirst K (He.ga K "Ratio") = true ∧
  PySem.W.keepIn K (.ref (He.ga K "Ratio")) = true ∧
  PySem.W.findIn K (.ref (He.ga K "Ratio")) "__class__" = some (some (.builtin "object.__class__")) ∧
  PySem.W.mroIn K (He.ga K "Ratio") (.type "object") = some true ∧
  PySem.W.isClsIn K (He.ga K "Ratio") = true ∧
  PySem.W.subIn K (.ref (He.ga K "Ratio")) (.ref (He.ga K "Ratio")) = some true ∧
  PySem.W.typeIn K (.ref (He.ga K "Ratio")) = some (.type "type") ∧
  PySem.W.findIn K (.ref (He.ga K "Ratio")) "top" = some none ∧
  PySem.W.findIn K (.ref (He.ga K "Ratio")) "bottom" = some none ∧
  PySem.W.nsIn K mainGlobals "Load" = some (some (.ref (He.ga K "Load"))) ∧
  PySem.W.plainGet K (He.ga K "Load") Str.empty = true ∧
  PySem.W.hasDictIn K (He.ga K "Load") = true ∧
  PySem.W.plainOver K (He.ga K "Load") = true ∧
  PySem.W.findIn K (.ref (He.ga K "Load")) "__setattr__" = some (some (.builtin "object.__setattr__")) ∧
  PySem.W.makesIn K (He.ga K "Load") = true ∧
  PySem.W.selfFirst K (He.ga K "Load") = true ∧
  PySem.W.keepIn K (.ref (He.ga K "Load")) = true ∧
  PySem.W.findIn K (.ref (He.ga K "Load")) "__class__" = some (some (.builtin "object.__class__")) ∧
  PySem.W.mroIn K (He.ga K "Load") (.type "object") = some true
abbrev PcH1 (K : PySem.W.Frag) : Prop :=
  PySem.W.isClsIn K (He.ga K "Load") = true ∧
  PySem.W.subIn K (.ref (He.ga K "Load")) (.ref (He.ga K "Load")) = some true ∧
  PySem.W.typeIn K (.ref (He.ga K "Load")) = some (.type "type") ∧
  PySem.W.findIn K (.ref (He.ga K "Load")) "label" = some none ∧
  PySem.W.findIn K (.ref (He.ga K "Load")) "weight" = some none ∧
  PySem.W.findIn K (.ref (He.ga K "Load")) "numbers" = some none ∧
  PySem.W.nsIn K mainGlobals "Book" = some (some (.ref (He.ga K "Book"))) ∧
  PySem.W.plainGet K (He.ga K "Book") Str.empty = true ∧
  PySem.W.hasDictIn K (He.ga K "Book") = true ∧
  PySem.W.plainOver K (He.ga K "Book") = true ∧
  PySem.W.findIn K (.ref (He.ga K "Book")) "__setattr__" = some (some (.builtin "object.__setattr__")) ∧
  PySem.W.makesIn K (He.ga K "Book") = true ∧
  PySem.W.selfFirst K (He.ga K "Book") = true ∧
  PySem.W.keepIn K (.ref (He.ga K "Book")) = true ∧
  PySem.W.findIn K (.ref (He.ga K "Book")) "__class__" = some (some (.builtin "object.__class__")) ∧
  PySem.W.mroIn K (He.ga K "Book") (.type "object") = some true ∧
  PySem.W.isClsIn K (He.ga K "Book") = true ∧
  PySem.W.subIn K (.ref (He.ga K "Book")) (.ref (He.ga K "Book")) = some true ∧
  PySem.W.typeIn K (.ref (He.ga K "Book")) = some (.type "type") ∧
  PySem.W.findIn K (.ref (He.ga K "Book")) "width" = some none ∧
  PySem.W.findIn K (.ref (He.ga K "Book")) "loads" = some none ∧
  PySem.W.findIn K (.ref (He.ga K "Book")) "_places" = some none ∧
  PySem.W.nsIn K mainGlobals "OutOfBounds" = some (some (.ref (He.ga K "OutOfBounds"))) ∧
  DL.excB K (He.ga K "OutOfBounds") = true ∧
  PySem.W.findIn K (.ref (He.ga K "OutOfBounds")) "__setattr__" = some (some (.builtin "object.__setattr__"))
abbrev PcH2 (K : PySem.W.Frag) : Prop :=
  PySem.W.subIn K (.ref (He.ga K "OutOfBounds")) (.type "BaseException") = some true ∧
  PySem.W.typeIn K (.ref (He.ga K "OutOfBounds")) = some (.type "type") ∧
  PySem.W.keepIn K (.ref (He.ga K "OutOfBounds")) = true ∧
  PySem.W.findIn K (.ref (He.ga K "OutOfBounds")) "__getattribute__" = some (some (.builtin "BaseException.__getattribute__")) ∧
  PySem.W.findIn K (.ref (He.ga K "OutOfBounds")) "__getattr__" = some none ∧
  PySem.W.hasDictIn K (He.ga K "OutOfBounds") = true ∧
  PySem.W.findIn K (.ref (He.ga K "OutOfBounds")) "__class__" = some (some (.builtin "object.__class__")) ∧
  PySem.W.mroIn K (He.ga K "OutOfBounds") (.type "object") = some true ∧
  PySem.W.isClsIn K (He.ga K "OutOfBounds") = true ∧
  PySem.W.subIn K (.ref (He.ga K "OutOfBounds")) (.ref (He.ga K "OutOfBounds")) = some true ∧
  PySem.W.findIn K (.ref (He.ga K "OutOfBounds")) "value" = some none ∧
  PySem.W.specialIn K (.builtin "object.__class__") "__get__" = some (some (.builtin "getset_descriptor.__get__")) ∧
  PySem.W.takesIn K (.builtin "object.__class__") = some true ∧
  PySem.W.findIn K (.ref (He.ga K "Ratio")) "__init__" = some (some (.ref (He.ma K (He.ga K "Ratio") "__init__"))) ∧
  PySem.W.isFn K (.ref (He.ma K (He.ga K "Ratio") "__init__")) = true ∧
  DL.fok1 K (He.ma K (He.ga K "Ratio") "__init__") "Ratio.__init__" 1 = true ∧
  PySem.W.keepIn K (.ref (He.ma K (He.ga K "Ratio") "__init__")) = true ∧
  PySem.W.findIn K (.ref (He.ga K "Ratio")) "sign" = some (some (.ref (He.ma K (He.ga K "Ratio") "sign"))) ∧
  PySem.W.isFn K (.ref (He.ma K (He.ga K "Ratio") "sign")) = true ∧
  DL.fokN K (He.ma K (He.ga K "Ratio") "sign") "Ratio.sign" = true ∧
  PySem.W.keepIn K (.ref (He.ma K (He.ga K "Ratio") "sign")) = true ∧
  PySem.W.findIn K (.ref (He.ga K "Ratio")) "raised" = some (some (.ref (He.ma K (He.ga K "Ratio") "raised"))) ∧
  PySem.W.isFn K (.ref (He.ma K (He.ga K "Ratio") "raised")) = true ∧
  DL.fokN K (He.ma K (He.ga K "Ratio") "raised") "Ratio.raised" = true ∧
  PySem.W.keepIn K (.ref (He.ma K (He.ga K "Ratio") "raised")) = true
abbrev PcH3 (K : PySem.W.Frag) : Prop :=
  PySem.W.findIn K (.ref (He.ga K "Ratio")) "__add__" = some (some (.ref (He.ma K (He.ga K "Ratio") "__add__"))) ∧
  PySem.W.isFn K (.ref (He.ma K (He.ga K "Ratio") "__add__")) = true ∧
  DL.fokN K (He.ma K (He.ga K "Ratio") "__add__") "Ratio.__add__" = true ∧
  PySem.W.keepIn K (.ref (He.ma K (He.ga K "Ratio") "__add__")) = true ∧
  PySem.W.findIn K (.ref (He.ga K "Ratio")) "__mul__" = some (some (.ref (He.ma K (He.ga K "Ratio") "__mul__"))) ∧
  PySem.W.isFn K (.ref (He.ma K (He.ga K "Ratio") "__mul__")) = true ∧
  DL.fokN K (He.ma K (He.ga K "Ratio") "__mul__") "Ratio.__mul__" = true ∧
  PySem.W.keepIn K (.ref (He.ma K (He.ga K "Ratio") "__mul__")) = true ∧
  PySem.W.findIn K (.ref (He.ga K "Ratio")) "__pow__" = some (some (.ref (He.ma K (He.ga K "Ratio") "__pow__"))) ∧
  PySem.W.isFn K (.ref (He.ma K (He.ga K "Ratio") "__pow__")) = true ∧
  DL.fokN K (He.ma K (He.ga K "Ratio") "__pow__") "Ratio.__pow__" = true ∧
  PySem.W.keepIn K (.ref (He.ma K (He.ga K "Ratio") "__pow__")) = true ∧
  PySem.W.nsIn K mainGlobals "row_times" = some (some (.ref (He.ga K "row_times"))) ∧
  DL.fokN K (He.ga K "row_times") "row_times" = true ∧
  PySem.W.keepIn K (.ref (He.ga K "row_times")) = true ∧
  PySem.W.nsIn K mainGlobals "is_label" = some (some (.ref (He.ga K "is_label"))) ∧
  DL.fokN K (He.ga K "is_label") "is_label" = true ∧
  PySem.W.keepIn K (.ref (He.ga K "is_label")) = true ∧
  PySem.W.findIn K (.ref (He.ga K "Load")) "__init__" = some (some (.ref (He.ma K (He.ga K "Load") "__init__"))) ∧
  PySem.W.isFn K (.ref (He.ma K (He.ga K "Load") "__init__")) = true ∧
  DL.fokN K (He.ma K (He.ga K "Load") "__init__") "Load.__init__" = true ∧
  PySem.W.keepIn K (.ref (He.ma K (He.ga K "Load") "__init__")) = true ∧
  PySem.W.findIn K (.ref (He.ga K "Book")) "__init__" = some (some (.ref (He.ma K (He.ga K "Book") "__init__"))) ∧
  PySem.W.isFn K (.ref (He.ma K (He.ga K "Book") "__init__")) = true ∧
  DL.fokN K (He.ma K (He.ga K "Book") "__init__") "Book.__init__" = true
abbrev PcH4 (K : PySem.W.Frag) : Prop :=
  PySem.W.keepIn K (.ref (He.ma K (He.ga K "Book") "__init__")) = true ∧
  PySem.W.findIn K (.ref (He.ga K "Book")) "__len__" = some (some (.ref (He.ma K (He.ga K "Book") "__len__"))) ∧
  PySem.W.isFn K (.ref (He.ma K (He.ga K "Book") "__len__")) = true ∧
  DL.fokN K (He.ma K (He.ga K "Book") "__len__") "Book.__len__" = true ∧
  PySem.W.keepIn K (.ref (He.ma K (He.ga K "Book") "__len__")) = true ∧
  PySem.W.nsIn K mainGlobals "_whole_weights" = some (some (.ref (He.ga K "_whole_weights"))) ∧
  DL.fokN K (He.ga K "_whole_weights") "_whole_weights" = true ∧
  PySem.W.keepIn K (.ref (He.ga K "_whole_weights")) = true ∧
  PySem.W.findIn K (.ref (He.ga K "Book")) "energy" = some (some (.ref (He.ma K (He.ga K "Book") "energy"))) ∧
  PySem.W.isFn K (.ref (He.ma K (He.ga K "Book") "energy")) = true ∧
  DL.fokN K (He.ma K (He.ga K "Book") "energy") "Book.energy" = true ∧
  PySem.W.keepIn K (.ref (He.ma K (He.ga K "Book") "energy")) = true ∧
  PySem.W.nsIn K mainGlobals "_split" = some (some (.ref (He.ga K "_split"))) ∧
  DL.fokN K (He.ga K "_split") "_split" = true ∧
  PySem.W.keepIn K (.ref (He.ga K "_split")) = true ∧
  PySem.W.nsIn K mainGlobals "condensed" = some (some (.ref (He.ga K "condensed"))) ∧
  DL.fokN K (He.ga K "condensed") "condensed" = true ∧
  PySem.W.keepIn K (.ref (He.ga K "condensed")) = true ∧
  PySem.W.nsIn K mainGlobals "_law_digit" = some (some (.ref (He.ga K "_law_digit"))) ∧
  DL.fokN K (He.ga K "_law_digit") "_law_digit" = true ∧
  PySem.W.keepIn K (.ref (He.ga K "_law_digit")) = true ∧
  PySem.W.nsIn K mainGlobals "_law_draw_labels" = some (some (.ref (He.ga K "_law_draw_labels"))) ∧
  DL.fokN K (He.ga K "_law_draw_labels") "_law_draw_labels" = true ∧
  PySem.W.keepIn K (.ref (He.ga K "_law_draw_labels")) = true ∧
  PySem.W.nsIn K mainGlobals "_law_draw_weight" = some (some (.ref (He.ga K "_law_draw_weight")))
abbrev PcH5 (K : PySem.W.Frag) : Prop :=
  DL.fokN K (He.ga K "_law_draw_weight") "_law_draw_weight" = true ∧
  PySem.W.keepIn K (.ref (He.ga K "_law_draw_weight")) = true ∧
  PySem.W.nsIn K mainGlobals "_law_draw_base" = some (some (.ref (He.ga K "_law_draw_base"))) ∧
  DL.fokN K (He.ga K "_law_draw_base") "_law_draw_base" = true ∧
  PySem.W.keepIn K (.ref (He.ga K "_law_draw_base")) = true ∧
  PySem.W.nsIn K mainGlobals "_law_draw_rows" = some (some (.ref (He.ga K "_law_draw_rows"))) ∧
  DL.fokN K (He.ga K "_law_draw_rows") "_law_draw_rows" = true ∧
  PySem.W.keepIn K (.ref (He.ga K "_law_draw_rows")) = true ∧
  PySem.W.nsIn K mainGlobals "_law_draw_direction" = some (some (.ref (He.ga K "_law_draw_direction"))) ∧
  DL.fokN K (He.ga K "_law_draw_direction") "_law_draw_direction" = true ∧
  PySem.W.keepIn K (.ref (He.ga K "_law_draw_direction")) = true ∧
  PySem.W.nsIn K mainGlobals "_law_whole" = some (some (.ref (He.ga K "_law_whole"))) ∧
  DL.fokN K (He.ga K "_law_whole") "_law_whole" = true ∧
  PySem.W.keepIn K (.ref (He.ga K "_law_whole")) = true ∧
  PySem.W.nsIn K mainGlobals "_law_gcd" = some (some (.ref (He.ga K "_law_gcd"))) ∧
  DL.fokN K (He.ga K "_law_gcd") "_law_gcd" = true ∧
  PySem.W.keepIn K (.ref (He.ga K "_law_gcd")) = true ∧
  PySem.W.nsIn K mainGlobals "_law_alike" = some (some (.ref (He.ga K "_law_alike"))) ∧
  DL.fokN K (He.ga K "_law_alike") "_law_alike" = true ∧
  PySem.W.keepIn K (.ref (He.ga K "_law_alike")) = true ∧
  PySem.W.nsIn K mainGlobals "_law_own_energy" = some (some (.ref (He.ga K "_law_own_energy"))) ∧
  DL.fokN K (He.ga K "_law_own_energy") "_law_own_energy" = true ∧
  PySem.W.keepIn K (.ref (He.ga K "_law_own_energy")) = true ∧
  PySem.W.nsIn K mainGlobals "_law_made" = some (some (.ref (He.ga K "_law_made"))) ∧
  DL.fokN K (He.ga K "_law_made") "_law_made" = true
abbrev PcH6 (K : PySem.W.Frag) : Prop :=
  PySem.W.keepIn K (.ref (He.ga K "_law_made")) = true ∧
  PySem.W.nsIn K mainGlobals "_law_numbers_told" = some (some (.ref (He.ga K "_law_numbers_told"))) ∧
  DL.fokN K (He.ga K "_law_numbers_told") "_law_numbers_told" = true ∧
  PySem.W.keepIn K (.ref (He.ga K "_law_numbers_told")) = true ∧
  PySem.W.nsIn K mainGlobals "_law_load_told" = some (some (.ref (He.ga K "_law_load_told"))) ∧
  DL.fokN K (He.ga K "_law_load_told") "_law_load_told" = true ∧
  PySem.W.keepIn K (.ref (He.ga K "_law_load_told")) = true ∧
  PySem.W.nsIn K mainGlobals "_law_same" = some (some (.ref (He.ga K "_law_same"))) ∧
  DL.fokN K (He.ga K "_law_same") "_law_same" = true ∧
  PySem.W.keepIn K (.ref (He.ga K "_law_same")) = true ∧
  PySem.W.nsIn K mainGlobals "_law_parallel" = some (some (.ref (He.ga K "_law_parallel"))) ∧
  DL.fokN K (He.ga K "_law_parallel") "_law_parallel" = true ∧
  PySem.W.keepIn K (.ref (He.ga K "_law_parallel")) = true ∧
  PySem.W.nsIn K mainGlobals "_law_own_condensed" = some (some (.ref (He.ga K "_law_own_condensed"))) ∧
  DL.fokN K (He.ga K "_law_own_condensed") "_law_own_condensed" = true ∧
  PySem.W.keepIn K (.ref (He.ga K "_law_own_condensed")) = true ∧
  PySem.W.nsIn K mainGlobals "law" = some (some (.ref (He.ga K "law"))) ∧
  DL.fokN K (He.ga K "law") "law" = true ∧
  PySem.W.keepIn K (.ref (He.ga K "law")) = true ∧
  PySem.W.findIn K (.ref (He.ga K "OutOfBounds")) "__init__" = some (some (.ref (He.ma K (He.ga K "OutOfBounds") "__init__"))) ∧
  PySem.W.typeIn K (.ref (He.ma K (He.ga K "OutOfBounds") "__init__")) = some (.type "function") ∧
  DL.fokN K (He.ma K (He.ga K "OutOfBounds") "__init__") "OutOfBounds.__init__" = true ∧
  PySem.W.keepIn K (.ref (He.ma K (He.ga K "OutOfBounds") "__init__")) = true ∧
  PySem.W.findIn K (.ref (He.ga K "Ratio")) "__rpow__" = some none ∧
  PySem.W.subIn K (.type "int") (.ref (He.ga K "Ratio")) = some false
abbrev PcH7 (K : PySem.W.Frag) : Prop :=
  PySem.W.nsIn K mainGlobals "abs" = some none ∧
  PySem.W.nsIn K mainGlobals "len" = some none ∧
  PySem.W.nsIn K mainGlobals "int" = some none ∧
  PySem.W.nsIn K mainGlobals "bool" = some none ∧
  PySem.W.nsIn K mainGlobals "str" = some none ∧
  PySem.W.nsIn K mainGlobals "range" = some none ∧
  PySem.W.nsIn K mainGlobals "isinstance" = some none ∧
  PySem.W.nsIn K mainGlobals "zip" = some none ∧
  PySem.W.nsIn K mainGlobals "tuple" = some none ∧
  PySem.W.nsIn K mainGlobals "list" = some none ∧
  PySem.W.nsIn K mainGlobals "sum" = some none ∧
  PySem.W.nsIn K mainGlobals "enumerate" = some none ∧
  PySem.W.nsIn K mainGlobals "gcd" = some (some (.builtin "math.gcd")) ∧
  PySem.W.nsIn K mainGlobals "lcm" = some (some (.builtin "math.lcm")) ∧
  DL.intB K "LONGEST_LABEL" 8 = true ∧
  DL.intB K "MOST_NUMBERS" 12 = true ∧
  DL.intB K "LARGEST" 9999 = true ∧
  DL.intB K "MOST_LOADS" 200 = true ∧
  DL.intB K "MOST_EXPONENT" 64 = true ∧
  DL.strB K "LETTERS" (SX.S [97, 98, 99, 100, 101, 102, 103, 104, 105, 106, 107, 108, 109, 110, 111, 112, 113, 114, 115, 116, 117, 118, 119, 120, 121, 122]) = true ∧
  DL.strB K "DIGITS" (SX.S [48, 49, 50, 51, 52, 53, 54, 55, 56, 57]) = true
def ckH0 (K : PySem.W.Frag) : Bool := decide (PcH0 K)
def ckH1 (K : PySem.W.Frag) : Bool := decide (PcH1 K)
def ckH2 (K : PySem.W.Frag) : Bool := decide (PcH2 K)
def ckH3 (K : PySem.W.Frag) : Bool := decide (PcH3 K)
def ckH4 (K : PySem.W.Frag) : Bool := decide (PcH4 K)
def ckH5 (K : PySem.W.Frag) : Bool := decide (PcH5 K)
def ckH6 (K : PySem.W.Frag) : Bool := decide (PcH6 K)
def ckH7 (K : PySem.W.Frag) : Bool := decide (PcH7 K)
def cksH : List (PySem.W.Frag → Bool) := [ckH0, ckH1, ckH2, ckH3, ckH4, ckH5, ckH6, ckH7]
abbrev hookH : PySem.W.Hook := DL.hookF cksH fnsH
theorem runH (w : World) : HandSHeadRun.RunEqI rowH viewH hookH (DL.obF cksH fnsH) 20000 looseH w := by
  unfold HandSHeadRun.RunEqI
  kernel_rfl
end K22R

set_option Elab.async false
set_option linter.all false
set_option maxRecDepth 100000
/-! DL9: isinstance of a caught error; errors made without arguments; several except clauses. -/
namespace DL
open PySem PySem.Spec L2
open PyProof.Rows hiding St
/-- the class of a caught error, as isinstance asks -/
structure ExK (K : PySem.W.Frag) (D : Addr) : Prop where
  xf : XfC K D
  ic : PySem.W.isClsIn K D = true
  ha : PySem.W.findIn K (.ref D) "__class__" = some (some (.builtin "object.__class__"))
  hn : PySem.W.specialIn K (.builtin "object.__class__") "__get__" = some (some (.builtin "getset_descriptor.__get__"))
  ht : PySem.W.takesIn K (.builtin "object.__class__") = some true
  hm : PySem.W.mroIn K D (.type "object") = some true
def cIsE (K : PySem.W.Frag) (a : Addr) (cls : Value) (d : Option Addr) : OC := fun xs _ H Q => ∃ (D : Addr) (c : V) (u : Value) (b : Bool), cls = .ref D ∧ ExK K D ∧ xs = [.ref a, c] ∧ ClsV c u ∧ PySem.W.kitOne K (.ref D) u = some b ∧
  (d = none ∨ ∃ (dd : Addr) (gs : List (Str × V)), d = some dd ∧ H dd = some (.xd gs)) ∧ Q (.bl b) H
theorem cs_isE {X : Cx} {a : Addr} {cls : Value} {d : Option Addr} {oe : Obj} {pn : List (Addr × Obj)} (hz : L2N.Zn cls d oe) (hf : ∃ vs, oe.data = .fields vs) : CallS (X.suite a ((a, oe) :: pn)) (.builtin "isinstance") (cIsE X.K a cls d) := by
  intro pins s σ H xs us Q I ru h
  obtain ⟨D, c, u, b, rfl, T, rfl, hc, hk, hd, q⟩ := h
  cases ru with
  | cons ra rt =>
    cases rt with
    | cons rc rt =>
      cases rt
      cases ra
      have ec := hc.eq rc
      subst ec
      obtain ⟨hget, _⟩ := I.pin (a, oe) (List.mem_append_left _ List.mem_cons_self)
      obtain ⟨vs, hv⟩ := hf
      have hno : PySem.W.notCls oe = true := by unfold PySem.W.notCls; rw [hv] <;> rfl
      have J : ∃ od, PySem.W.InstAt s.heap a oe D od := by
        rcases hd with rfl | ⟨dd, gs, rfl, hx⟩
        · exact ⟨none, hget, hz.1, hno, by rw [hz.2.1]; trivial⟩
        · have hx : ObjOk X.prog X.w H s.heap dd (.xd gs) := I.hok dd _ hx
          obtain ⟨mA, hns, _⟩ := hx
          obtain ⟨od, ho, _⟩ := lookIn_ns hns
          exact ⟨some od, hget, hz.1, hno, by rw [hz.2.1]; exact ho⟩
      obtain ⟨od, J⟩ := J
      exact PySem.W.kia_one (PySem.W.kitx_exc T.ic T.xf.ga T.xf.gg T.xf.exC T.ha T.hn T.ht T.hm) I.kIn J hk (fun z => nomatch z) fun tk => ⟨.bl b, H, I.kept (t' := tk) fun _ _ z => z, rfl, q⟩
section
variable {W : WX} {E : ET} {r : Rho} {m : Mu} {K : KT} {G : Gx} {a C : Addr} {dd : Option Addr} {ns : List Str} {ds : List D}
theorem exc_dd {M : Addr → Prop} {H : Hp} {v : V} (h : Rep M H (.exc a dd C ns ds) v) : v = .ref a ∧ (dd = none ∨ ∃ (x : Addr) (gs : List (Str × V)), dd = some x ∧ H x = some (.xd gs)) := by
  cases h with
  | excN => exact ⟨rfl, .inl rfl⟩
  | excS mm hh rr => exact ⟨rfl, .inr ⟨_, _, rfl, hh⟩⟩
theorem wc_isEC {B : Addr} {b : Bool} (T : ExK G.K C) (hk : PySem.W.kitOne G.K (.ref C) (.ref B) = some b) (h : K (.bl b) m) : Wc W E (cIsE G.K a (.ref C) dd) [.exc a dd C ns ds, .ref B] r m K := fun s H Q vs e z rs g => by
  cases rs with
  | cons x tt =>
    cases tt with
    | cons c tt =>
      cases tt; cases c
      obtain ⟨rfl, hd⟩ := exc_dd x
      exact ⟨C, _, .ref B, b, rfl, T, rfl, .own B, hk, hd, g _ m _ H (Stp.refl _ _) e.mu (.bl _) h⟩
theorem wc_isET {n : String} {b : Bool} (T : ExK G.K C) (hk : PySem.W.kitOne G.K (.ref C) (.type n) = some b) (h : K (.bl b) m) : Wc W E (cIsE G.K a (.ref C) dd) [.exc a dd C ns ds, .ty n] r m K := fun s H Q vs e z rs g => by
  cases rs with
  | cons x tt =>
    cases tt with
    | cons c tt =>
      cases tt; cases c
      obtain ⟨rfl, hd⟩ := exc_dd x
      exact ⟨C, _, .type n, b, rfl, T, rfl, .ty n, hk, hd, g _ m _ H (Stp.refl _ _) e.mu (.bl _) h⟩
end
/-! ### raise C(), C an own class without an __init__ -/
structure Exc0 (G : Gx) (x : Str) (C : Addr) : Prop where
  q : PySem.W.excIn G.K C [.type "ValueError", .type "Exception", .type "BaseException", .type "object"] "ValueError.__new__" = true
  kC : PySem.W.keepIn G.K (.ref C) = true
  exC : PySem.W.subIn G.K (.ref C) (.type "BaseException") = some true
  tyC : PySem.W.typeIn G.K (.ref C) = some (.type "type")
  mgC : G.mg x = some (.ref C)
def tRs0 (C : Addr) (W : WX) : TS := fun _ σ H => W (.ref C) none σ H
section
variable {X : Cx} {W : WX} {E : ET} {x : Str} {C : Addr} {p pos pos' : Pos} {r : Rho} {m : Mu} {P : DEnds}
theorem pmkN_own0 (c : Exc0 (Gx.of X) x C) (hg : Gl X x) (hdb : (x == ("__debug__" : Str)) = false := by decide) : L2N.PMk X (.Call (.Name x p) [] [] pos) (fun _ H Q => Q (.ref C) none H) := by
  intro pins s σ H Q I h
  refine wpAny_Call_Name_kw (ld_glob I hg c.mgC ?_ hdb)
  refine PySem.W.callWith_K0 I.kIn c.kC ?_
  obtain ⟨bm, Na, nm, qn, bs, hdct, sn, sub, ab, col, dd, k0, k1, k2, k3, k5, mN, hC, hN, hni, T⟩ := exc_obj I.kIn c.q
  exact wpAny_call_exc_subT PySem.F.excBase_ValueError T hC hN hni (fun h' e hm => L2N.mk_of I hm (raises_own c.exC c.tyC) h (I.hok.gone hm.new)) (by show 0 ≤ sizeLine; exact Nat.zero_le _)
theorem ps_rs0 (c : Exc0 (Gx.of X) x C) (hc : X.calm = true) (tk : L2N.Takes X W) (hg : Gl X x) (hdb : (x == ("__debug__" : Str)) = false := by decide) :
    PS X (.Raise (some (.Call (.Name x p) [] [] pos)) none pos') (tRs0 C W) := L2N.ps_raise hc tk (pmkN_own0 c hg hdb)
theorem ws_rs0 (h : E ⟨C, [], []⟩ r m) : Ws W E (tRs0 C W) r m P := fun s H De e z g => z _ r m _ _ s H (Stp.refl _ _) e ⟨rfl, .inl ⟨rfl, rfl, rfl⟩⟩ h
end
/-! ### several clauses: except C1 as n: .., except C2 as n: .. -/
end DL
set_option Elab.async false
set_option linter.all false
/-! MR: fractions in lowest terms, Euclid's turns. -/
namespace DL
open PySem PySem.Spec L2
/-! ### lowest terms -/
def gc (t b : Int) : Int := (Nat.gcd t.natAbs b.natAbs : Nat)
def rT (t b : Int) : Int := if b < 0 then -t / gc t b else t / gc t b
def rB (t b : Int) : Int := if b < 0 then -b / gc t b else b / gc t b
theorem gc_pos {t b : Int} (h : b ≠ 0) : 0 < gc t b := by
  have : 0 < Nat.gcd t.natAbs b.natAbs := Nat.gcd_pos_of_pos_right _ (by omega)
  unfold gc; omega
theorem gc_dvd1 (t b : Int) : gc t b ∣ t := Int.ofNat_dvd_left.mpr (Nat.gcd_dvd_left _ _)
theorem gc_dvd2 (t b : Int) : gc t b ∣ b := Int.ofNat_dvd_left.mpr (Nat.gcd_dvd_right _ _)
theorem gc_bd {t b : Int} {n : Nat} (h : b ≠ 0) (hb : Bd n b) : Bd n (gc t b) := by
  have : Nat.gcd t.natAbs b.natAbs ≤ b.natAbs := Nat.le_of_dvd (by omega) (Nat.gcd_dvd_right _ _)
  unfold Bd gc at *
  omega
theorem fdiv_pos {a g : Int} (h : 0 < g) : a.fdiv g = a / g := Int.fdiv_eq_ediv_of_nonneg _ (by omega)
theorem fdiv_neg' {a g : Int} (h : 0 < g) (d : g ∣ a) : a.fdiv (-g) = -a / g := by
  obtain ⟨c, rfl⟩ := d
  have e1 : g * c = (-g) * (-c) := by rw [Int.neg_mul_neg]
  have e2 : -(g * c) = g * (-c) := by rw [Int.mul_neg]
  rw [e2, Int.mul_ediv_cancel_left _ (by omega), e1, Int.mul_comm]
  exact Int.mul_fdiv_cancel _ (by omega)
/-- t = g * rT up to the sign of b -/
theorem rat_eqs {t b : Int} (h : b ≠ 0) : ∃ g : Int, g ≠ 0 ∧ t = g * rT t b ∧ b = g * rB t b ∧ 0 < rB t b := by
  have gp := gc_pos (t := t) h
  obtain ⟨c, hc⟩ := gc_dvd1 t b
  obtain ⟨d, hd⟩ := gc_dvd2 t b
  by_cases hb : b < 0
  · refine ⟨-gc t b, by omega, ?_, ?_, ?_⟩
    · unfold rT; rw [if_pos hb]
      have : -t / gc t b = -c := by
        have e : -t = gc t b * (-c) := by rw [Int.mul_neg, ← hc]
        rw [e, Int.mul_ediv_cancel_left _ (by omega)]
      rw [this, Int.neg_mul_neg]; exact hc
    · unfold rB; rw [if_pos hb]
      have : -b / gc t b = -d := by
        have e : -b = gc t b * (-d) := by rw [Int.mul_neg, ← hd]
        rw [e, Int.mul_ediv_cancel_left _ (by omega)]
      rw [this, Int.neg_mul_neg]; exact hd
    · unfold rB; rw [if_pos hb]
      exact Int.ediv_pos_of_pos_of_dvd (by omega) (by omega) (Int.dvd_neg.mpr ⟨d, hd⟩)
  · refine ⟨gc t b, by omega, ?_, ?_, ?_⟩
    · unfold rT; rw [if_neg hb]
      have : t / gc t b = c := by
        have e : t = gc t b * c := hc
        rw [show t / gc t b = (gc t b * c) / gc t b by rw [← e], Int.mul_ediv_cancel_left _ (by omega)]
      rw [this]; exact hc
    · unfold rB; rw [if_neg hb]
      have : b / gc t b = d := by
        have e : b = gc t b * d := hd
        rw [show b / gc t b = (gc t b * d) / gc t b by rw [← e], Int.mul_ediv_cancel_left _ (by omega)]
      rw [this]; exact hd
    · unfold rB; rw [if_neg hb]
      exact Int.ediv_pos_of_pos_of_dvd (by omega) (by omega) ⟨d, hd⟩
theorem natAbs_div {a : Int} {g : Nat} (h : 0 < g) (d : (g : Int) ∣ a) : (a / (g : Int)).natAbs = a.natAbs / g := by
  obtain ⟨c, rfl⟩ := d
  rw [Int.mul_ediv_cancel_left _ (by omega), Int.natAbs_mul, Int.natAbs_natCast, Nat.mul_div_cancel_left _ h]
theorem rat_gcd {t b : Int} (h : b ≠ 0) : Nat.gcd (rT t b).natAbs (rB t b).natAbs = 1 := by
  have gp : 0 < Nat.gcd t.natAbs b.natAbs := Nat.gcd_pos_of_pos_right _ (by omega)
  have e1 : (rT t b).natAbs = t.natAbs / Nat.gcd t.natAbs b.natAbs := by
    unfold rT
    split
    · have := natAbs_div (a := -t) gp (Int.dvd_neg.mpr (gc_dvd1 t b))
      rw [Int.natAbs_neg] at this; exact this
    · exact natAbs_div gp (gc_dvd1 t b)
  have e2 : (rB t b).natAbs = b.natAbs / Nat.gcd t.natAbs b.natAbs := by
    unfold rB
    split
    · have := natAbs_div (a := -b) gp (Int.dvd_neg.mpr (gc_dvd2 t b))
      rw [Int.natAbs_neg] at this; exact this
    · exact natAbs_div gp (gc_dvd2 t b)
  rw [e1, e2]
  rw [Nat.gcd_div (Nat.gcd_dvd_left _ _) (Nat.gcd_dvd_right _ _)]
  exact Nat.div_self gp
theorem rat_bd {t b : Int} {n : Nat} (h : b ≠ 0) (ht : Bd n t) : Bd n (rT t b) := by
  obtain ⟨g, hg, e, _⟩ := rat_eqs (t := t) h
  have : t.natAbs = g.natAbs * (rT t b).natAbs := by rw [← Int.natAbs_mul, ← e]
  have hp : 1 ≤ g.natAbs := by omega
  have : (rT t b).natAbs ≤ t.natAbs := by
    rw [this]
    calc (rT t b).natAbs = 1 * (rT t b).natAbs := (Nat.one_mul _).symm
      _ ≤ _ := Nat.mul_le_mul_right _ hp
  unfold Bd at *
  omega
theorem rat_bdB {t b : Int} {n : Nat} (h : b ≠ 0) (ht : Bd n b) : Bd n (rB t b) := by
  obtain ⟨g, hg, _, e, _⟩ := rat_eqs (t := t) h
  have : b.natAbs = g.natAbs * (rB t b).natAbs := by rw [← Int.natAbs_mul, ← e]
  have hp : 1 ≤ g.natAbs := by omega
  have : (rB t b).natAbs ≤ b.natAbs := by
    rw [this]
    calc (rB t b).natAbs = 1 * (rB t b).natAbs := (Nat.one_mul _).symm
      _ ≤ _ := Nat.mul_le_mul_right _ hp
  unfold Bd at *
  omega
/-! ### Euclid's turns -/
def Eu (a k x y : Nat) : Prop := (k = 0 ∧ x < 2 ^ a ∧ y < 2 ^ a) ∨ (1 ≤ k ∧ k ≤ a + a + 1 ∧ y < x ∧ x * y * 2 ^ (k - 1) < 2 ^ (a + a))
theorem Eu.step {a k x y : Nat} (h : Eu a k x y) (hy : 0 < y) : Eu a (k + 1) y (x % y) := by
  have hm := Nat.mod_lt x hy
  rcases h with ⟨rfl, h1, h2⟩ | ⟨h1, h2, h3, h4⟩
  · refine .inr ⟨by omega, by omega, hm, ?_⟩
    rw [show (0 + 1 - 1 : Nat) = 0 from rfl, Nat.pow_zero, Nat.mul_one, Nat.pow_add]
    exact Nat.mul_lt_mul'' h2 (Nat.lt_of_le_of_lt (Nat.mod_le _ _) h1)
  · have hx : 1 ≤ x * y := Nat.mul_pos (by omega) hy
    have l1 : 2 ^ (k - 1) < 2 ^ (a + a) := Nat.lt_of_le_of_lt (by
      calc 2 ^ (k - 1) = 1 * 2 ^ (k - 1) := (Nat.one_mul _).symm
        _ ≤ x * y * 2 ^ (k - 1) := Nat.mul_le_mul_right _ hx) h4
    have l2 : k - 1 < a + a := (Nat.pow_lt_pow_iff_right (by decide)).mp l1
    refine .inr ⟨by omega, by omega, hm, ?_⟩
    have e : 2 ^ (k + 1 - 1) = 2 * 2 ^ (k - 1) := by
      rw [show k + 1 - 1 = (k - 1) + 1 by omega, Nat.pow_succ, Nat.mul_comm]
    have two : 2 * (x % y) ≤ x := by
      have e1 := Nat.div_add_mod x y
      have q : 1 ≤ x / y := (Nat.one_le_div_iff hy).mpr (by omega)
      have : y * 1 ≤ y * (x / y) := Nat.mul_le_mul_left _ q
      omega
    calc y * (x % y) * 2 ^ (k + 1 - 1) = y * (2 * (x % y)) * 2 ^ (k - 1) := by rw [e]; ac_rfl
      _ ≤ y * x * 2 ^ (k - 1) := Nat.mul_le_mul_right _ (Nat.mul_le_mul_left _ two)
      _ = x * y * 2 ^ (k - 1) := by rw [Nat.mul_comm y x]
      _ < _ := h4
theorem Eu.early {a k x y : Nat} (h : Eu a k x y) (hk : a + a + 1 < k) : False := by
  rcases h with ⟨rfl, _⟩ | ⟨_, h, _⟩ <;> omega

/-- lowest terms stay -/
theorem rat_low {t b : Int} (h : 0 < b) (g : Nat.gcd t.natAbs b.natAbs = 1) : rT t b = t ∧ rB t b = b := by
  have e : gc t b = 1 := by
    unfold gc
    rw [g]
    rfl
  unfold rT rB
  rw [if_neg (by omega), if_neg (by omega), e, Int.ediv_one, Int.ediv_one]
  exact ⟨rfl, rfl⟩
structure Lo (a : Nat) (t b : Int) : Prop where
  pos : 0 < b
  gcd : Nat.gcd t.natAbs b.natAbs = 1
  bt : Bd a t
  bb : Bd a b
theorem lo_rat {a : Nat} {t b : Int} (h0 : b ≠ 0) (ht : Bd a t) (hb : Bd a b) : Lo a (rT t b) (rB t b) := by
  obtain ⟨g, _, _, _, hp⟩ := rat_eqs (t := t) h0
  exact ⟨hp, rat_gcd h0, rat_bd h0 ht, rat_bdB h0 hb⟩
/-- the same number, both in lowest terms -/
theorem low_eq {t b x y : Int} (hb : 0 < b) (hy : 0 < y) (g : Nat.gcd t.natAbs b.natAbs = 1) (k : Nat.gcd x.natAbs y.natAbs = 1) (e : t * y = x * b) : t = x ∧ b = y := by
  have e' : t.natAbs * y.natAbs = x.natAbs * b.natAbs := by rw [← Int.natAbs_mul, ← Int.natAbs_mul, e]
  have d1 : b.natAbs ∣ y.natAbs := by
    have : b.natAbs ∣ t.natAbs * y.natAbs := ⟨x.natAbs, by rw [e', Nat.mul_comm]⟩
    exact (Nat.Coprime.symm g).dvd_of_dvd_mul_left this
  have d2 : y.natAbs ∣ b.natAbs := by
    have : y.natAbs ∣ x.natAbs * b.natAbs := ⟨t.natAbs, by rw [← e', Nat.mul_comm]⟩
    exact (Nat.Coprime.symm k).dvd_of_dvd_mul_left this
  have eb : b.natAbs = y.natAbs := Nat.dvd_antisymm d1 d2
  have ey : b = y := by omega
  subst ey
  exact ⟨Int.eq_of_mul_eq_mul_right (by omega) e, rfl⟩
theorem rat_scale {a b k : Int} (hb : b ≠ 0) (hk : k ≠ 0) : rT (a * k) (b * k) = rT a b ∧ rB (a * k) (b * k) = rB a b := by
  have hbk : b * k ≠ 0 := Int.mul_ne_zero hb hk
  obtain ⟨g, hg, e1, e2, p1⟩ := rat_eqs (t := a) hb
  obtain ⟨h, hh, e3, e4, p2⟩ := rat_eqs (t := a * k) hbk
  refine low_eq p2 p1 (rat_gcd hbk) (rat_gcd hb) ?_
  refine Int.eq_of_mul_eq_mul_left (Int.mul_ne_zero hh hg) ?_
  generalize rT (a * k) (b * k) = A at *
  generalize rB (a * k) (b * k) = B at *
  generalize rT a b = P at *
  generalize rB a b = Q at *
  subst e1 e2
  grind
theorem Bd.addS {a b : Nat} {x y : Int} (h : Bd a x) (k : Bd b y) : Bd (a + b + 1) (x + y) := (h.mono (Nat.le_add_right a b)).add (k.mono (Nat.le_add_left b a))
theorem Bd.subS {a b : Nat} {x y : Int} (h : Bd a x) (k : Bd b y) : Bd (a + b + 1) (x - y) := (h.mono (Nat.le_add_right a b)).sub (k.mono (Nat.le_add_left b a))
theorem Ws.cut {W : WX} {E : ET} {t : TS} {r : Rho} {m : Mu} {P : DEnds} (I : Rho → Mu → Prop) (h : Ws W E t r m { P with nx := I }) (k : ∀ r' m', I r' m' → P.nx r' m') : Ws W E t r m P := fun s H De e z g =>
  h s H De e z ⟨fun r' m' s' H' a b q => g.nx r' m' s' H' a b (k r' m' q), g.rt, g.bk, g.ct⟩
end DL
set_option Elab.async false
set_option linter.all false
set_option maxRecDepth 100000
/-! DL10: short words for methods and own operators. -/
namespace DL
open PySem PySem.Spec L2
open PyProof.Rows hiding St
section
variable {W : WX} {E : ET} {r : Rho} {m : Mu} {K : KT} {G : Gx} {t : TA} {j k n : Nat} {C : Addr} {ns : List Str} {ds : List D} {S : SpecD} {dd : List D} {mt : Str}
theorem mt_of (M : Met G k C ns mt n S dd) (cs : dd.all isC = true) (hk : k ≤ j) (h : Wa W E t r m fun es m2 => (D.ins C ns ds :: (es ++ dd)).length = n ∧ S (D.ins C ns ds :: (es ++ dd)) m2 K fun x m' => E x r m') :
    ∃ (k n : Nat) (C' : Addr) (ns' : List Str) (S : SpecD) (dd : List D), Met G k C' ns' mt n S dd ∧ dd.all isC = true ∧ k ≤ j ∧ InsD (D.ins C ns ds) m C' ns' ∧
    Wa W E t r m fun es m2 => (D.ins C ns ds :: (es ++ dd)).length = n ∧ S (D.ins C ns ds :: (es ++ dd)) m2 K fun x m' => E x r m' := ⟨k, n, C, ns, S, dd, M, cs, hk, .fixed, h⟩
theorem mt_of0 (M : Met G k C ns mt n S []) (hk : k ≤ j) (h : Wa W E t r m fun es m2 => es.length + 1 = n ∧ S (D.ins C ns ds :: es) m2 K fun x m' => E x r m') :
    ∃ (k n : Nat) (C' : Addr) (ns' : List Str) (S : SpecD) (dd : List D), Met G k C' ns' mt n S dd ∧ dd.all isC = true ∧ k ≤ j ∧ InsD (D.ins C ns ds) m C' ns' ∧
    Wa W E t r m fun es m2 => (D.ins C ns ds :: (es ++ dd)).length = n ∧ S (D.ins C ns ds :: (es ++ dd)) m2 K fun x m' => E x r m' :=
  mt_of M rfl hk (h.imp fun es m2 k => by
    rw [List.append_nil]
    exact k)
variable {d d' : D} {ns' : List Str} {ds' : List D}
theorem w1_negO (O : Opr G k C "__neg__" 1 S) (hk : k ≤ j) (i : FldD d m C ns ds) (h : S [d] m K fun x m' => E x r m') : W1 W E (oNeg G j W) d r m K := fun s H Q v e z rv g => .inr (w1_own O hk i h s H Q v e z rv g)
theorem w2_addO (O : Opr G k C "__add__" 2 S) (hk : k ≤ j) (i : FldD d m C ns ds) (i' : FldD d' m C ns' ds') (h : S [d, d'] m K fun x m' => E x r m') : W2 W E (oAdd G j W) d d' r m K := fun s H Q a b e z ra rb g => .inr (.inr (.inr (.inr (w2_own O hk i i' h s H Q a b e z ra rb g))))
theorem w2_subO (O : Opr G k C "__sub__" 2 S) (hk : k ≤ j) (i : FldD d m C ns ds) (i' : FldD d' m C ns' ds') (h : S [d, d'] m K fun x m' => E x r m') : W2 W E (oSub G j W) d d' r m K := fun s H Q a b e z ra rb g => .inr (w2_own O hk i i' h s H Q a b e z ra rb g)
theorem w2_mulO (O : Opr G k C "__mul__" 2 S) (hk : k ≤ j) (i : FldD d m C ns ds) (i' : FldD d' m C ns' ds') (h : S [d, d'] m K fun x m' => E x r m') : W2 W E (oMul G j W) d d' r m K := fun s H Q a b e z ra rb g => .inr (.inr (w2_own O hk i i' h s H Q a b e z ra rb g))
end
end DL
set_option Elab.async false
set_option linter.all false
set_option maxRecDepth 100000
/-! DL11: tests within an except suite; what isinstance and except answer of own classes. -/
namespace DL
open PySem PySem.Spec L2
open PyProof.Rows hiding St
theorem pt_trS {X : Cx} {a : Addr} {pn : List (Addr × Obj)} {e : Expr} {te : TE} (ha : PE (X.suite a pn) e te) (he : ∀ whole, isTrue e (X.suite a pn).env whole = (do let v ← whole; standAt e.pos; holding [v] (truthy v)) := by intro _; rfl) : PT (X.suite a pn) e (tTr X.K te) := pt_tr ha he
theorem pe_isE {X : Cx} {a : Addr} {cls : Value} {d : Option Addr} {oe : Obj} {pn : List (Addr × Obj)} {e : Expr} {es : List Expr} {t : TA} {p pos : Pos} (hz : L2N.Zn cls d oe) (hf : ∃ vs, oe.data = .fields vs) (hm : X.mg "isinstance" = none) (ha : PA (X.suite a ((a, oe) :: pn)) (e :: es) t)
    (hg : Gl (X.suite a ((a, oe) :: pn)) "isinstance" := by rfl)
    (he : starEach (e :: es) X.env = (false, eval e X.env) :: starEach es X.env := by rfl) (hpl : (backTo pos (starEach es X.env)).any (·.1) = false := by rfl) : PE (X.suite a ((a, oe) :: pn)) (.Call (.Name "isinstance" p) (e :: es) [] pos) (tC2 (cIsE X.K a cls d) t) :=
  pe_cb (cs_isE hz hf) hg hm (by decide +kernel) ha (by decide) (by decide) he hpl
section
variable {K : PySem.W.Frag} {S O : Addr}
theorem kit_self : PySem.W.kitOne K (.ref S) (.ref S) = some true := by
  unfold PySem.W.kitOne
  rw [if_pos]
  simp
theorem kit_no (hx : PySem.W.subIn K (.ref S) (.ref S) = some true) (h2 : PySem.W.isClsIn K O = true) (h3 : PySem.W.typeIn K (.ref O) = some (.type "type")) (h4 : PySem.W.subIn K (.ref S) (.ref O) = some false) : PySem.W.kitOne K (.ref S) (.ref O) = some false := by
  have ne : ¬ ((Value.ref S == Value.ref O) = true) := fun z => by
    have e : S = O := by simpa using z
    subst e
    rw [hx] at h4
    cases h4
  have e2 : ((PySem.W.clsIn K O).isSome && PySem.W.typeIn K (.ref O) == some (.type "type")) = true := by
    have h2' : (PySem.W.clsIn K O).isSome = true := h2
    rw [h2', h3] <;> rfl
  unfold PySem.W.kitOne
  rw [if_neg ne]
  show (if ((PySem.W.clsIn K O).isSome && PySem.W.typeIn K (.ref O) == some (.type "type")) = true then PySem.W.subIn K (.ref S) (.ref O) else none) = some false
  rw [if_pos e2]
  exact h4
theorem kit_val (h : PySem.W.subIn K (.ref S) (.type "ValueError") = some true) : PySem.W.kitOne K (.ref S) (.type "ValueError") = some true := h
end
end DL
set_option Elab.async false
set_option linter.all false
set_option maxRecDepth 100000
/-! DL12: in, by an own __contains__. -/
namespace DL
open PySem PySem.Spec L2
open PyProof.Rows hiding St
section
variable {X : Cx} {W : WX} {E : ET} {r : Rho} {m : Mu} {K : KT} {G : Gx} {j k : Nat} {C : Addr} {ns : List Str} {ds : List D} {S : SpecD} {d d' : D}
def oInO (G : Gx) (j : Nat) (W : WX) : O2 := fun x y σ H Q => ∃ (a C dx : Addr) (fs : List (Str × V)) (k : Nat) (S : SpecD), y = .ref a ∧ H a = some (.ins C dx fs) ∧ k ≤ j ∧ Opr G k C "__contains__" 2 S ∧ spD 2 S [y, x] H (fun v H' => ∃ b, v = .bl b ∧ Q (.bl b) H') (WE W σ)
theorem os_inO (hr : Room j X.A) (tk : L2N.Takes X W) : OpS X (compareOp .In) (oInO (Gx.of X) j W) := by
  intro pins s σ H x y u v Q I rx ry h
  obtain ⟨a, C, dx, fs, k, S, rfl, ha, hk, O, q⟩ := h
  obtain rfl : v = Value.ref a := ry
  obtain ⟨f, ⟨⟨fd, ps, ds, F, bd, d⟩, cs⟩, h1, h2⟩ := O.ex
  obtain ⟨od, J⟩ := inst_of I ha
  obtain ⟨m, fr⟩ := I.fr
  refine PySem.W.in_K fr I.ok.mod.kin J h1 h2 ?_
  refine wpAny_mono (run_fnSD (E := WE W) (us := [.ref a, u]) (vs := [.ref a, x]) F (hr.mono hk) bd d (L2N.passAt tk σ) I (.cons rfl (.cons rx .nil)) q) (fun w s' hq => ?_) fun _ _ z => z
  obtain ⟨v', H1, I1, r1, b, rfl, q1⟩ := hq
  cases r1
  exact wpAny_truthy_bool ⟨.bl b, H1, I1, rfl, q1⟩
theorem w2_inO {d d' : D} (O : Opr G k C "__contains__" 2 S) (hk : k ≤ j) (i : FldD d' m C ns ds) (h : S [d', d] m (fun x m' => ∃ b, x = .bl b ∧ K (.bl b) m') fun x m' => E x r m') : W2 W E (oInO G j W) d d' r m K := fun s H Q a b e z ra rb g => by
  obtain ⟨p, dx, gs, rfl, hp, _⟩ := i.look e.mu rb
  refine ⟨p, C, dx, gs, k, S, rfl, hp, hk, O, spD_of rfl e z (fun d m' v H' s1 mu1 r1 q => ?_) (.cons rb (.cons ra .nil)) h fun _ _ q => q⟩
  obtain ⟨b, rfl, q⟩ := q
  cases r1
  exact ⟨b, rfl, g _ m' _ H' s1 mu1 (.bl b) q⟩
end
end DL
namespace DL
open PySem PySem.Spec L2
open PyProof.Rows hiding St
/-! ==, by an own __eq__ (both of the class) -/
section
variable {X : Cx} {W : WX} {E : ET} {r : Rho} {m : Mu} {K : KT} {G : Gx} {j k : Nat} {C : Addr} {ns ns' : List Str} {ds ds' : List D} {S : SpecD} {d d' : D}
structure OprEq (G : Gx) (k : Nat) (C : Addr) (S : SpecD) : Prop where
  o : Opr G k C "__eq__" 2 S
  nf : PySem.W.notFirst G.K C (.ref C) = true
def oEqO (G : Gx) (j : Nat) (W : WX) : O2 := fun x y σ H Q => ∃ (a b C dx dy : Addr) (fs gs : List (Str × V)) (k : Nat) (S : SpecD), x = .ref a ∧ y = .ref b ∧ H a = some (.ins C dx fs) ∧ H b = some (.ins C dy gs) ∧ k ≤ j ∧ OprEq G k C S ∧ spD 2 S [x, y] H Q (WE W σ)
theorem os_eqO (hr : Room j X.A) (tk : L2N.Takes X W) : OpS X (compareOp .Eq) (oEqO (Gx.of X) j W) := by
  intro pins s σ H x y u v Q I rx ry h
  obtain ⟨a, b, C, dx, dy, fs, gs, k, S, rfl, rfl, ha, hb, hk, O, q⟩ := h
  obtain rfl : u = Value.ref a := rx
  obtain rfl : v = Value.ref b := ry
  obtain ⟨f, ⟨⟨fd, ps, ds, F, bd, d⟩, cs⟩, h1, h2⟩ := O.o.ex
  obtain ⟨od, J⟩ := inst_of I ha
  obtain ⟨od', J'⟩ := inst_of I hb
  obtain ⟨m, fr⟩ := I.fr
  show wpAny (model X.prog X.w) X.A (richCompare .Eq (.ref a) (.ref b)) (EP X pins σ Q) X.xe s
  refine PySem.W.cmp_K (Nat.lt_of_succ_lt (hu_of hr)) fr I.ok.mod.kin J J'.type O.nf h1 h2 ?_
  exact wpAny_mono (run_fnSD (E := WE W) (us := [.ref a, .ref b]) (vs := [.ref a, .ref b]) F (hr.mono hk) bd d (L2N.passAt tk σ) I (.cons rfl (.cons rfl .nil)) q) (fun r s' hq => back_of hq) fun _ _ z => z
theorem w2_eqO (O : OprEq G k C S) (hk : k ≤ j) (i : FldD d m C ns ds) (i' : FldD d' m C ns' ds') (h : S [d, d'] m K fun x m' => E x r m') : W2 W E (oEqO G j W) d d' r m K := fun s H Q a b e z ra rb g => by
  obtain ⟨p, dx, gs, rfl, hp, _⟩ := i.look e.mu ra
  obtain ⟨p', dx', gs', rfl, hp', _⟩ := i'.look e.mu rb
  exact ⟨p, p', C, dx, dx', gs, gs', k, S, rfl, rfl, hp, hp', hk, O, spD_of rfl e z g (.cons ra (.cons rb .nil)) h fun _ _ q => q⟩
end
end DL
namespace DL
open PySem PySem.Spec L2
open PyProof.Rows hiding St
theorem pe_fldK {X : Cx} {KK : PySem.W.Frag} {e : Expr} {ta : TE} {f : Str} {pos : Pos} (hk : X.K = KK) (he : PE X e ta) (hb : attributeBase e f X.env (eval e X.env) = eval e X.env) : PE X (.Attribute e f pos) (tFld KK ta f) := by
  subst hk
  exact pe_fld he hb
section
variable {X : Cx} {W : WX} {mt : Str} {j : Nat} {e o : Expr} {es : List Expr} {t : TA} {to : TE} {pos apos : Pos}
theorem pe_mthG {pl : Sem Bool} (G : Gx) (hG : Gx.of X = G) (hr : Room j X.A) (tk : L2N.Takes X W) (he : PE X o to) (ha : PA X (e :: es) t)
    (hst : starEach (e :: es) X.env = (false, eval e X.env) :: starEach es X.env := by rfl) (hpl : (backTo pos (starEach es X.env)).any (·.1) = false := by rfl)
    (ht : eval (.Call (.Attribute o mt apos) (e :: es) [] pos) X.env = (do
      let ov ← eval o X.env
      standAt apos.atName
      let (f, first) ← holding [ov] (getMethod ov mt pl)
      callWith pos f first (backTo pos (starEach (e :: es) X.env)) (backToKw pos (keywordEach [] X.env))) := by rfl) :
    PE X (.Call (.Attribute o mt apos) (e :: es) [] pos) (tMt G j W mt to t) := by
  subst hG
  exact pe_mth hr tk he ha hst hpl ht
theorem pe_mth0G {pl : Sem Bool} (G : Gx) (hG : Gx.of X = G) (hr : Room j X.A) (tk : L2N.Takes X W) (he : PE X o to)
    (ht : eval (.Call (.Attribute o mt apos) [] [] pos) X.env = (do
      let ov ← eval o X.env
      standAt apos.atName
      let (f, first) ← holding [ov] (getMethod ov mt pl)
      callWith pos f first (backTo pos (starEach [] X.env)) (backToKw pos (keywordEach [] X.env))) := by rfl) :
    PE X (.Call (.Attribute o mt apos) [] [] pos) (tMt G j W mt to tNil) := by
  subst hG
  exact pe_mth0 hr tk he ht
end
end DL
set_option Elab.async false
set_option linter.all false
set_option maxRecDepth 100000
/-! DL13: == and != of all kinds: plain data, an own __eq__ on either side. -/
namespace PySem.SeqAt
open AutoSeq1 (wpAny_loadPart')
open MeetsSeq PySem.W
section
variable {prog : Program} {w : World} {A : Around} {E : Value → Shared → Prop} {s : Shared} {K : Frag} {x C : Addr} {ox : Obj} {od : Option Obj}
theorem isInst_own {M : Model} {T : String} {Q : Bool → Shared → Prop} (X : K.In s.heap) (I : PySem.W.InstAt s.heap x ox C od) (h : subIn K (.ref C) (.type T) = some false) (q : Q false s) : wpAny M A (isInstance (.ref x) (.type T)) Q E s := by
  unfold isInstance
  exact wpAny_bind (I.type.here ((looks_subIn X h).here q))
theorem list_eq_own (l : Addr) (items : Array Value) (n : Nat) (dd : Option Addr) (sl : Array (Option Value)) (hs : subIn K (.ref C) (.type "list") = some false) :
    Meets (Builtin.«list.__eq__» ⟨[.ref l, .ref x], []⟩) (fun _ R s => s.heap.get? l = some { cls := .type "list", dict := dd, data := .seq items n, slots := sl } ∧ K.In s.heap ∧ PySem.W.InstAt s.heap x ox C od ∧ R (.ok (.ret .notImplemented)) s) :=
  .of_wp fun prog w A R s h => by
    obtain ⟨hl, X, I, h⟩ := h
    have f1 : ∀ {M : Model} {A : Around} {E : Value → Shared → Prop} {Q : Bool → Shared → Prop}, Q false s → wpAny M A (isInstance (.ref x) (.type "list")) Q E s := fun q => isInst_own X I hs q
    obtain ⟨hp, g, d, tk, os⟩ := s
    wp_walk using wpAny_loadPart' hl, f1
    exact ⟨_, rfl, h⟩
theorem tuple_eq_own (l : Addr) (items : Array Value) (n : Nat) (dd : Option Addr) (sl : Array (Option Value)) (hs : subIn K (.ref C) (.type "tuple") = some false) :
    Meets (Builtin.«tuple.__eq__» ⟨[.ref l, .ref x], []⟩) (fun _ R s => s.heap.get? l = some { cls := .type "tuple", dict := dd, data := .seq items n, slots := sl } ∧ K.In s.heap ∧ PySem.W.InstAt s.heap x ox C od ∧ R (.ok (.ret .notImplemented)) s) :=
  .of_wp fun prog w A R s h => by
    obtain ⟨hl, X, I, h⟩ := h
    have f1 : ∀ {M : Model} {A : Around} {E : Value → Shared → Prop} {Q : Bool → Shared → Prop}, Q false s → wpAny M A (isInstance (.ref x) (.type "tuple")) Q E s := fun q => isInst_own X I hs q
    obtain ⟨hp, g, d, tk, os⟩ := s
    wp_walk using wpAny_loadPart' hl, f1
    exact ⟨_, rfl, h⟩
theorem int_eq_own (b : Int) (u : Tok) (dx : Addr) :
    Meets (Builtin.«int.__eq__» ⟨[.int b u, .ref x], []⟩) (fun _ R s => s.heap.get? x = some (instObj C dx) ∧ R (.ok (.ret .notImplemented)) s) :=
  .of_wp fun prog w A R s h => by
    obtain ⟨hp, g, d, tk, os⟩ := s
    obtain ⟨hl, h⟩ := h
    wp_walk using wpAny_loadPart' hl, wpAny_load hl
    exact ⟨_, rfl, h⟩
theorem str_eq_own (b : Str) (u : Tok) (dx : Addr) :
    Meets (Builtin.«str.__eq__» ⟨[.str b u, .ref x], []⟩) (fun _ R s => s.heap.get? x = some (instObj C dx) ∧ R (.ok (.ret .notImplemented)) s) :=
  .of_wp fun prog w A R s h => by
    obtain ⟨hp, g, d, tk, os⟩ := s
    obtain ⟨hl, h⟩ := h
    wp_walk using wpAny_loadPart' hl, wpAny_load hl
    exact ⟨_, rfl, h⟩
end
end PySem.SeqAt
namespace PySem.W
open PySem.SeqAt MeetsSeq
section
variable {prog : Program} {w : World} {A : Around} {E : Value → Shared → Prop} {s : Shared} {K : Frag} {x C f : Addr} {ox : Obj} {od : Option Obj} {a : Value} {T id : String}
/-- a builtin's value == an own instance: the value's own == declines, the instance's is asked -/
theorem cmp_refl {Q : Value → Shared → Prop} (hu : A.units < cLine) (X : K.In s.heap) (I : InstAt s.heap x ox C od) (ha : s.TypeIs a T) (hsub : subIn K (.ref C) (.type T) = some false)
    (h1 : Slot T (cmpInfo .Eq).2.1 id) (hc : ∀ Q' : Value → Shared → Prop, Q' .notImplemented s → wpAny (model prog w) A (call (.builtin id) [a, .ref x]) Q' E s)
    (hs : findIn K (.ref C) "__eq__" = some (some (.ref f))) (hf : isFn K (.ref f) = true)
    (h : wpAny (model prog w) A (call (.ref f) [.ref x, a]) (CmpBack Q) E s) : wpAny (model prog w) A (richCompare .Eq a (.ref x)) Q E s := by
  have one : wpAny (model prog w) A (tryCompare (.ref x) "__eq__" a) (fun r s' => ∃ v, r = some v ∧ Q v s') E s := by
    unfold tryCompare
    refine wpAny_bind (ifBound_K X I hs hf (wpAny_mono h (fun v s' hv => ?_) fun _ _ e => e))
    cases v <;> first | exact hv.elim | exact wpAny_pure ⟨_, rfl, hv⟩
  rcases hi : cmpInfo CmpOp.Eq with ⟨sym, ff, r⟩
  rw [hi] at h1
  have er : r = "__eq__" := by
    have : (cmpInfo CmpOp.Eq).2.2 = "__eq__" := rfl
    rw [hi] at this
    exact this
  subst er
  simp only [richCompare, hi, ha.oneThing_none]
  refine wpAny_holding ?_
  refine wpAny_bind (wpAny_cRoomFor hu ?_)
  refine wpAny_bind (wpAny_typeOf ha (wpAny_bind (I.type.here ?_)))
  have ne : (Value.type T != Value.ref C) = true := rfl
  simp only [ne, if_true]
  refine wpAny_bind ((looks_subIn X hsub).here ?_)
  simp only [Bool.false_eq_true, if_false, Bool.not_false, if_true]
  refine wpAny_bind (m := tryCompare a _ _) (wpAny_tryCompare_declines ha h1 (hc _ ⟨rfl, ?_⟩))
  refine wpAny_bind (m := tryCompare (.ref x) _ a) (wpAny_mono one (fun r s' z => ?_) fun _ _ e => e)
  obtain ⟨v, rfl, hq⟩ := z
  exact wpAny_pure hq
end
end PySem.W
namespace DL
open PySem PySem.Spec L2
open PyProof.Rows hiding St
/-! ### == and !=: all kinds -/
mutual
/-- a plain datum -/
inductive PD : D → PyData → Prop
  | non : PD .non .none
  | bl (b : Bool) : PD (.bl b) (.bool b)
  | int (i : Int) : PD (.int i) (.int i)
  | str (x : Str) : PD (.str x) (.str x)
  | tup {xs : List D} {ps : List PyData} (h : PDs xs ps) : PD (.tup xs) (.tuple ps)
  | lst {xs : List D} {ps : List PyData} (h : PDs xs ps) : PD (.lst xs) (.list ps)
inductive PDs : List D → List PyData → Prop
  | nil : PDs [] []
  | cons {x : D} {p : PyData} {xs : List D} {ps : List PyData} (h : PD x p) (t : PDs xs ps) : PDs (x :: xs) (p :: ps)
end
mutual
theorem PD.dp {K : PySem.W.Frag} {M : Addr → Prop} {H : Hp} : ∀ {d : D} {p : PyData} {v : V}, PD d p → Rep M H d v → Dp K H v p
  | _, _, _, .non, .non => .non
  | _, _, _, .bl b, .bl _ => .bl b
  | _, _, _, .int i, .int _ => .int i
  | _, _, _, .str x, .str _ => .str x
  | _, _, _, .tup h, .tup m hh r => .tup (rd_t hh) (PDs.dp h r)
  | _, _, _, .lst h, .lst m hh r => .lst (rd_l hh) (PDs.dp h r)
theorem PDs.dp {K : PySem.W.Frag} {M : Addr → Prop} {H : Hp} : ∀ {d : List D} {p : List PyData} {v : List V}, PDs d p → Reps M H d v → DpAll K H v p
  | _, _, _, .nil, .nil => .nil
  | _, _, _, .cons h t, .cons r q => .cons (PD.dp h r) (PDs.dp t q)
end
section
variable {X : Cx} {W : WX} {j : Nat}
/-- an own instance with an own __eq__ on the left -/
def oOwnL (G : Gx) (j : Nat) (W : WX) : O2 := fun x y σ H Q => ∃ (a C dx : Addr) (fs : List (Str × V)) (k : Nat) (S : SpecD) (t : Value), x = .ref a ∧ H a = some (.ins C dx fs) ∧ TyX G.K H y t ∧ PySem.W.notFirst G.K C t = true ∧ k ≤ j ∧ Opr G k C "__eq__" 2 S ∧ spD 2 S [x, y] H Q (WE W σ)
theorem os_ownL (hr : Room j X.A) (tk : L2N.Takes X W) : OpS X (compareOp .Eq) (oOwnL (Gx.of X) j W) := by
  intro pins s σ H x y u v Q I rx ry h
  obtain ⟨a, C, dx, fs, k, S, t, rfl, ha, ty, nf, hk, O, q⟩ := h
  obtain rfl : u = Value.ref a := rx
  obtain ⟨f, ⟨⟨fd, ps, ds, F, bd, d⟩, cs⟩, h1, h2⟩ := O.ex
  obtain ⟨od, J⟩ := inst_of I ha
  obtain ⟨P, Z, hp, _⟩ := kit_of I ry ty
  obtain ⟨m, fr⟩ := I.fr
  show wpAny (model X.prog X.w) X.A (richCompare .Eq (.ref a) v) (EP X pins σ Q) X.xe s
  refine PySem.W.cmp_K (Nat.lt_of_succ_lt (hu_of hr)) fr I.ok.mod.kin J (Z.ty _ _ I.kIn hp) nf h1 h2 ?_
  exact wpAny_mono (run_fnSD (E := WE W) (us := [.ref a, v]) (vs := [.ref a, y]) F (hr.mono hk) bd d (L2N.passAt tk σ) I (.cons rfl (.cons ry .nil)) q) (fun r s' hq => back_of hq) fun _ _ z => z
/-- a builtin's value, by its type -/
inductive BkV (K : PySem.W.Frag) (H : Hp) : V → String → Prop
  | non : BkV K H .non "NoneType"
  | int (i : Int) : BkV K H (.int i) "int"
  | str (x : Str) : BkV K H (.str x) "str"
  | lst {a : Addr} {xs : List V} (h : SqL K H a xs) : BkV K H (.ref a) "list"
  | tup {a : Addr} {xs : List V} (h : SqT K H a xs) : BkV K H (.ref a) "tuple"
/-- .. on the right -/
def oOwnR (G : Gx) (j : Nat) (W : WX) : O2 := fun x y σ H Q => ∃ (a C dx : Addr) (fs : List (Str × V)) (k : Nat) (S : SpecD) (T : String), y = .ref a ∧ H a = some (.ins C dx fs) ∧ BkV G.K H x T ∧ PySem.W.subIn G.K (.ref C) (.type T) = some false ∧ k ≤ j ∧ Opr G k C "__eq__" 2 S ∧ spD 2 S [y, x] H Q (WE W σ)
theorem os_ownR (hr : Room j X.A) (tk : L2N.Takes X W) : OpS X (compareOp .Eq) (oOwnR (Gx.of X) j W) := by
  intro pins s σ H x y u v Q I rx ry h
  obtain ⟨a, C, dx, fs, k, S, T, rfl, ha, bk, sb, hk, O, q⟩ := h
  obtain rfl : v = Value.ref a := ry
  obtain ⟨f, ⟨⟨fd, ps, ds, F, bd, d⟩, cs⟩, h1, h2⟩ := O.ex
  obtain ⟨od, J⟩ := inst_of I ha
  have hu := Nat.lt_of_succ_lt (hu_of hr)
  have run : wpAny (model X.prog X.w) X.A (call (.ref f) [.ref a, u]) (PySem.W.CmpBack (EP X pins σ Q)) X.xe s :=
    wpAny_mono (run_fnSD (E := WE W) (us := [.ref a, u]) (vs := [.ref a, x]) F (hr.mono hk) bd d (L2N.passAt tk σ) I (.cons rfl (.cons rx .nil)) q) (fun r s' hq => back_of hq) fun _ _ z => z
  show wpAny (model X.prog X.w) X.A (richCompare .Eq u (.ref a)) (EP X pins σ Q) X.xe s
  cases bk with
  | non =>
    cases (show u = Value.none from rx)
    exact PySem.W.cmp_refl hu I.kIn J rfl sb PySem.F.slot_NoneType_eq (fun _ hq => call_gives PySem.F.slot_NoneType_eq rfl PySem.F.entry_NoneType_eq (PySem.F.args_NoneType_eq_2 _ _) (PySem.SeqAt.NoneType___eq___none_ref_0 a) hq) h1 h2 run
  | int i =>
    obtain ⟨t, e⟩ := (show ∃ t, u = Value.int i t from rx)
    cases e
    exact PySem.W.cmp_refl hu I.kIn J (typeIs_int s i t) sb PySem.F.slot_int_eq (fun _ hq => call_meets PySem.F.slot_int_eq (typeIs_int s i t) PySem.F.entry_int_eq (PySem.F.args_int_eq_2 _ _) (PySem.SeqAt.int_eq_own i t dx) ⟨J.at_, hq⟩) h1 h2 run
  | str i =>
    obtain ⟨t, e⟩ := (show ∃ t, u = Value.str i t from rx)
    cases e
    exact PySem.W.cmp_refl hu I.kIn J (typeIs_str s i t) sb PySem.F.slot_str_eq (fun _ hq => call_meets PySem.F.slot_str_eq (typeIs_str s i t) PySem.F.entry_str_eq (PySem.F.args_str_eq_2 _ _) (PySem.SeqAt.str_eq_own i t dx) ⟨J.at_, hq⟩) h1 h2 run
  | @lst l xs hh =>
    cases (show u = Value.ref l from rx)
    obtain ⟨its, rv, p, hz⟩ := I.list hh
    obtain ⟨⟨cls, dd, data, sl⟩, ho, hc, n, hd⟩ := id p.isList
    simp only at hc hd
    subst hc hd
    exact PySem.W.cmp_refl hu I.kIn J ⟨_, ho, rfl⟩ sb PySem.F.slot_list_eq (fun _ hq => call_meets PySem.F.slot_list_eq ⟨_, ho, rfl⟩ PySem.F.entry_list_eq (PySem.F.args_list_eq_2 _ _) (PySem.SeqAt.list_eq_own l _ n dd sl sb) ⟨ho, I.kIn, J, hq⟩) h1 h2 run
  | @tup l xs hh =>
    cases (show u = Value.ref l from rx)
    obtain ⟨its, rv, p, hz⟩ := I.tuple hh
    obtain ⟨⟨cls, dd, data, sl⟩, ho, hc, n, hd⟩ := id (show s.heap.IsTuple l its.toArray from p)
    simp only at hc hd
    subst hc hd
    exact PySem.W.cmp_refl hu I.kIn J ⟨_, ho, rfl⟩ sb PySem.F.slot_tuple_eq (fun _ hq => call_meets PySem.F.slot_tuple_eq ⟨_, ho, rfl⟩ PySem.F.entry_tuple_eq (PySem.F.args_tuple_eq_2 _ _) (PySem.SeqAt.tuple_eq_own l _ n dd sl sb) ⟨ho, I.kIn, J, hq⟩) h1 h2 run
def oEqF (G : Gx) (j : Nat) (W : WX) : O2 := fun x y s H Q => rEq x y H Q ∨ (rEqD G.K x y H Q ∨ (oOwnL G j W x y s H Q ∨ oOwnR G j W x y s H Q))
def oNeF (G : Gx) (j : Nat) (W : WX) : O2 := fun x y s H Q => rNe x y H Q ∨ rNeD G.K x y H Q
theorem os_eqF (hr : Room j X.A) (tk : L2N.Takes X W) : OpS X (compareOp .Eq) (oEqF (Gx.of X) j W) := (OpS.of op_eq).or ((OpS.of (op_eqD hr.units)).or ((os_ownL hr tk).or (os_ownR hr tk)))
theorem os_neF (hr : Room j X.A) (tk : L2N.Takes X W) : OpS X (compareOp .NotEq) (oNeF (Gx.of X) j W) := (OpS.of op_ne).or (OpS.of (op_neD hr.units))
end
/-! ### what they do to trees -/
section
variable {W : WX} {E : ET} {r : Rho} {m : Mu} {K : KT} {G : Gx} {j k : Nat} {C : Addr} {ns : List Str} {ds : List D} {S : SpecD} {d d' : D}
theorem w2_eqFI {i k : Int} (h : K (.bl (decide (i = k))) m) : W2 W E (oEqF G j W) (.int i) (.int k) r m K := w2_val (fun _ _ _ => rint) (fun _ _ _ => rint) (fun _ _ => .bl _) (fun _ _ _ q => .inl ⟨rfl, by rw [dec_int, ← Bool.beq_eq_decide_eq] at *; exact q⟩) h
theorem w2_neFI {i k : Int} (h : K (.bl (!decide (i = k))) m) : W2 W E (oNeF G j W) (.int i) (.int k) r m K := w2_val (fun _ _ _ => rint) (fun _ _ _ => rint) (fun _ _ => .bl _) (fun _ _ _ q => .inl ⟨rfl, by rw [dec_int, ← Bool.beq_eq_decide_eq] at *; exact q⟩) h
theorem w2_eqFD {p q : PyData} (h1 : PD d p) (h2 : PD d' q) (s1 : SeqAt.shaped p = true) (s2 : SeqAt.shaped q = true) (h : K (.bl (PyData.eqv p q)) m) : W2 W E (oEqF G j W) d d' r m K := fun s H Q a b e z ra rb g =>
  .inr (.inl ⟨p, q, h1.dp ra, h2.dp rb, s1, s2, g _ m _ H (Stp.refl _ _) e.mu (.bl _) h⟩)
theorem w2_neFD {p q : PyData} (h1 : PD d p) (h2 : PD d' q) (s1 : SeqAt.shaped p = true) (s2 : SeqAt.shaped q = true) (h : K (.bl (!PyData.eqv p q)) m) : W2 W E (oNeF G j W) d d' r m K := fun s H Q a b e z ra rb g =>
  .inr ⟨p, q, h1.dp ra, h2.dp rb, s1, s2, g _ m _ H (Stp.refl _ _) e.mu (.bl _) h⟩
theorem w2_eqFs {p : PyData} (h1 : PD d p) (s1 : SeqAt.shaped p = true) (h : K (.bl true) m) : W2 W E (oEqF G j W) d d r m K := w2_eqFD h1 h1 s1 s1 (by rw [PySem.SeqAt.eqv_refl p (SeqAt.canLay_of_shaped s1)]; exact h)
theorem w2_neFs {p : PyData} (h1 : PD d p) (s1 : SeqAt.shaped p = true) (h : K (.bl false) m) : W2 W E (oNeF G j W) d d r m K := w2_neFD h1 h1 s1 s1 (by rw [PySem.SeqAt.eqv_refl p (SeqAt.canLay_of_shaped s1)]; exact h)
/-- the instance on the left -/
theorem w2_eqFL {t : Value} (O : Opr G k C "__eq__" 2 S) (hk : k ≤ j) (i : FldD d m C ns ds) (ty : TyD G d' m t) (nf : PySem.W.notFirst G.K C t = true) (h : S [d, d'] m K fun x m' => E x r m') : W2 W E (oEqF G j W) d d' r m K := fun s H Q a b e z ra rb g => by
  obtain ⟨p, dx, gs, rfl, hp, _⟩ := i.look e.mu ra
  exact .inr (.inr (.inl ⟨p, C, dx, gs, k, S, t, rfl, hp, ty.ok rb, nf, hk, O, spD_of rfl e z g (.cons ra (.cons rb .nil)) h fun _ _ q => q⟩))
inductive BkD : D → String → Prop
  | non : BkD .non "NoneType"
  | int (i : Int) : BkD (.int i) "int"
  | str (x : Str) : BkD (.str x) "str"
  | lst (xs : List D) : BkD (.lst xs) "list"
  | tup (xs : List D) : BkD (.tup xs) "tuple"
theorem BkD.ok {KF : PySem.W.Frag} {M : Addr → Prop} {H : Hp} {T : String} {v : V} (b : BkD d T) (rp : Rep M H d v) : BkV KF H v T := by
  cases b with
  | non => cases rp; exact .non
  | int i => cases rp; exact .int i
  | str i => cases rp; exact .str i
  | lst xs =>
    cases rp with
    | lst mm hh rs => exact .lst (rd_l hh)
  | tup xs =>
    cases rp with
    | tup mm hh rs => exact .tup (rd_t hh)
/-- .. on the right of a builtin's value -/
theorem w2_eqFR {T : String} (O : Opr G k C "__eq__" 2 S) (hk : k ≤ j) (i : FldD d' m C ns ds) (b : BkD d T) (sb : PySem.W.subIn G.K (.ref C) (.type T) = some false) (h : S [d', d] m K fun x m' => E x r m') : W2 W E (oEqF G j W) d d' r m K := fun s H Q a b' e z ra rb g => by
  obtain ⟨p, dx, gs, rfl, hp, _⟩ := i.look e.mu rb
  exact .inr (.inr (.inr ⟨p, C, dx, gs, k, S, T, rfl, hp, b.ok ra, sb, hk, O, spD_of rfl e z g (.cons rb (.cons ra .nil)) h fun _ _ q => q⟩))
end
/-! ### all of a list of bools; str of a number -/
section
variable {X : Cx} {W : WX} {E : ET} {r : Rho} {m : Mu} {K : KT} {G : Gx}
def cAll (G : Gx) : OC := fun xs _ H Q => rAll G.K xs H Q
theorem cs_all (hc : X.calm = true) : CallS X (.builtin "all") (cAll (Gx.of X)) := CallS.of (cr_all hc)
def cAny (G : Gx) : OC := fun xs _ H Q => rAny G.K xs H Q
theorem cs_any (hc : X.calm = true) : CallS X (.builtin "any") (cAny (Gx.of X)) := CallS.of (cr_any hc)
theorem rep_bls {M : Addr → Prop} {H : Hp} : ∀ {bs : List Bool} {vs : List V}, Reps M H (bs.map D.bl) vs → vs = bs.map V.bl
  | [], _, .nil => rfl
  | b :: bs, _, .cons (.bl _) t => by rw [rep_bls t]; rfl
theorem wc_all {ds : List D} {bs : List Bool} (e : ds = bs.map D.bl) (h : K (.bl (bs.all id)) m) : Wc W E (cAll G) [.lst ds] r m K := fun s H Q vs e0 z rs g => by
  subst e
  cases rs with
  | cons a tt =>
    cases tt
    cases a with
    | @lst a _ vs mm hh rr =>
      have e1 := rep_bls rr
      subst e1
      exact ⟨a, bs, rfl, rd_l hh, g _ m _ H (Stp.refl _ _) e0.mu (.bl _) h⟩
theorem wc_any {ds : List D} {bs : List Bool} (e : ds = bs.map D.bl) (h : K (.bl (bs.any id)) m) : Wc W E (cAny G) [.lst ds] r m K := fun s H Q vs e0 z rs g => by
  subst e
  cases rs with
  | cons a tt =>
    cases tt
    cases a with
    | @lst a _ vs mm hh rr =>
      have e1 := rep_bls rr
      subst e1
      exact ⟨a, bs, rfl, rd_l hh, g _ m _ H (Stp.refl _ _) e0.mu (.bl _) h⟩
def cStrI : OC := fun xs _ H Q => ∃ i, xs = [.int i] ∧ i.natAbs.log2 < 1920 ∧ Q (.str (toString i)) H
theorem cs_strI : CallS X (.type "str") cStrI := CallS.of call_str_int
theorem wc_strI {i : Int} (hb : i.natAbs.log2 < 1920) (h : K (.str (toString i)) m) : Wc W E cStrI [.int i] r m K := fun s H Q vs e z rs g => by
  cases rs with
  | cons a tt =>
    cases tt
    cases a
    exact ⟨i, rfl, hb, g _ m _ H (Stp.refl _ _) e.mu (.str _) h⟩
end
/-! ### an own == against the builtin kinds -/
def kinds5 : List String := ["NoneType", "int", "str", "list", "tuple"]
structure KindsC (G : Gx) (C : Addr) : Prop where
  kt : ∀ T ∈ kinds5, PySem.W.kitOne G.K (.type T) (.ref C) = some false
  sb : ∀ T ∈ kinds5, PySem.W.subIn G.K (.ref C) (.type T) = some false
  nf : ∀ T ∈ kinds5, PySem.W.notFirst G.K C (.type T) = true
theorem BkD.ty {G : Gx} {m : Mu} {d : D} {T : String} (b : BkD d T) : TyD G d m (.type T) := by
  cases b <;> constructor
theorem BkD.mem {d : D} {T : String} (b : BkD d T) : T ∈ kinds5 := by
  cases b <;> simp [kinds5]
theorem nf_self {K : PySem.W.Frag} {C : Addr} : PySem.W.notFirst K C (.ref C) = true := by simp [PySem.W.notFirst]
theorem kit_noT {K : PySem.W.Frag} {O : Addr} {T : String} (h2 : PySem.W.isClsIn K O = true) (h3 : PySem.W.typeIn K (.ref O) = some (.type "type")) (h4 : PySem.W.subIn K (.type T) (.ref O) = some false) : PySem.W.kitOne K (.type T) (.ref O) = some false := by
  have ne : ¬ ((Value.type T == Value.ref O) = true) := fun z => by simp at z
  have e2 : ((PySem.W.clsIn K O).isSome && PySem.W.typeIn K (.ref O) == some (.type "type")) = true := by
    have h2' : (PySem.W.clsIn K O).isSome = true := h2
    rw [h2', h3] <;> rfl
  unfold PySem.W.kitOne
  rw [if_neg ne]
  show (if ((PySem.W.clsIn K O).isSome && PySem.W.typeIn K (.ref O) == some (.type "type")) = true then PySem.W.subIn K (.type T) (.ref O) else none) = some false
  rw [if_pos e2]
  exact h4
theorem nf_of {K : PySem.W.Frag} {A B : Addr} (h : PySem.W.subIn K (.ref B) (.ref A) = some false) : PySem.W.notFirst K A (.ref B) = true := by simp [PySem.W.notFirst, h]
end DL
set_option Elab.async false
set_option linter.all false
set_option maxRecDepth 100000
/-! DL14: static methods, &, texts put together, == of plain data in except suites. -/
namespace DL
open PySem PySem.Spec L2
open PyProof.Rows hiding St
/-- a static method mt of the class at C -/
structure Sta (G : Gx) (k : Nat) (C : Addr) (mt : Str) (n : Nat) (S : SpecD) : Prop where
  ex : ∃ (f p : Addr) (rr : List Value), Fnx G k f n S [] ∧ ClX.CRead G.K C (.type "type") ∧ PySem.W.findCls G.K (.ref C) (.type "type") mt = some (.get (.builtin "staticmethod.__get__") (.ref p) .none (.ref C)) ∧ PySem.W.recIn G.K p "staticmethod" = some (.ref f :: rr) ∧ PySem.W.keepIn G.K (.ref f) = true
def tSt (C : Addr) (n : Nat) (S : SpecD) (W : WX) (to : TE) (t : TA) : TE := fun σ H Q => to σ H fun x H1 => x = .ref C ∧ t σ H1 fun vs H2 => spD n S vs H2 Q (WE W σ)
section
variable {X : Cx} {W : WX} {mt : Str} {k j n : Nat} {S : SpecD} {C : Addr} {e o : Expr} {es : List Expr} {t : TA} {to : TE} {pos apos : Pos}
theorem pe_sta {pl : Sem Bool} (c : Sta (Gx.of X) k C mt n S) (hr : Room j X.A) (hk : k ≤ j) (tk : L2N.Takes X W) (he : PE X o to) (ha : PA X (e :: es) t)
    (hst : starEach (e :: es) X.env = (false, eval e X.env) :: starEach es X.env := by rfl) (hpl : (backTo pos (starEach es X.env)).any (·.1) = false := by rfl)
    (ht : eval (.Call (.Attribute o mt apos) (e :: es) [] pos) X.env = (do
      let ov ← eval o X.env
      standAt apos.atName
      let (f, first) ← holding [ov] (getMethod ov mt pl)
      callWith pos f first (backTo pos (starEach (e :: es) X.env)) (backToKw pos (keywordEach [] X.env))) := by rfl) :
    PE X (.Call (.Attribute o mt apos) (e :: es) [] pos) (tSt C n S W to t) := by
  obtain ⟨f, p, rr, ⟨⟨fd, ps, ds, F, b, d⟩, cs⟩, rd, at_, rc, kp⟩ := c.ex
  have hds : ds = [] := by
    have := d.length
    simp only [List.map_nil, List.length_nil] at this
    exact List.length_eq_zero_iff.mp this.symm
  refine ⟨fun pins s σ H Q I h => ?_⟩
  refine PySem.W.methodCall_KW (pl := pl) (thn (he.run pins s σ H _ I h) fun u s1 ⟨x, H1, I1, rx, ex, q⟩ => ?_) ht
  subst ex
  obtain rfl : u = Value.ref C := rx
  refine PySem.W.method_cls I1.kIn rd.ga ?_
  refine PySem.W.cls_bind I1.kIn rd.rd at_ ?_
  refine wpAny_call (PySem.W.sm_get (s := { s1 with toks := s1.toks + 1 }) I1.kIn rc (PySem.W.handed_on rfl ?_))
  have I2 := I1.tok (s1.toks + 1)
  refine PySem.W.callWith_K (first := []) (h₀ := X.base) I.ok.mod.kin kp (thn (ha.run pos pins _ σ H1 _ I2 q) fun us s2 ⟨vs, H2, I3, rr, q2⟩ => ⟨I3.kIn, ?_⟩) hst hpl
  have z := run_fnSD (E := WE W) (us := us) (vs := vs) F (hr.mono hk) b d (L2N.passAt tk σ) I3 rr (by rw [List.map_nil, List.append_nil]; exact q2)
  exact z
end
section
variable {W : WX} {E : ET} {r : Rho} {m : Mu} {K : KT} {C : Addr} {n : Nat} {S : SpecD} {to : TE} {t : TA}
theorem we_sta (h : We W E to r m fun d m1 => d = .ref C ∧ Wa W E t r m1 fun ds m2 => ds.length = n ∧ S ds m2 K fun x m' => E x r m') : We W E (tSt C n S W to t) r m K := fun s H Q e z g =>
  h s H _ e z fun d m1 v H1 st mu rd ⟨ed, q⟩ => by
    subst ed
    cases rd
    refine ⟨rfl, ?_⟩
    refine q s H1 _ (e.step st mu) (z.step st) fun ds m2 vs H2 st2 mu2 rs q2 => ?_
    exact spD_of q2.1 ((e.step st mu).step st2 mu2) ((z.step st).step st2) ((g.step st).step st2) rs q2.2 fun _ _ q => q
end
/-! ### & -/
section
variable {X : Cx} {W : WX} {E : ET} {r : Rho} {m : Mu} {K : KT} {G : Gx} {j k : Nat} {C : Addr} {ns ns' : List Str} {ds ds' : List D} {S : SpecD} {d d' : D}
def oAnd (G : Gx) (j : Nat) (W : WX) : O2 := oOwn2 G j W "__and__"
theorem os_and (hr : Room j X.A) (tk : L2N.Takes X W) : OpS X (binaryOp .BitAnd) (oAnd (Gx.of X) j W) := os_own2 (op := .BitAnd) hr tk
theorem w2_andO (O : Opr G k C "__and__" 2 S) (hk : k ≤ j) (i : FldD d m C ns ds) (i' : FldD d' m C ns' ds') (h : S [d, d'] m K fun x m' => E x r m') : W2 W E (oAnd G j W) d d' r m K := w2_own O hk i i' h
/-! ### texts -/
theorem w2_addStr {a b : Str} (l : a.length + b.length ≤ sizeLine) (h : K (.str (a ++ b)) m) : W2 W E (oAdd G j W) (.str a) (.str b) r m K := w2_val (fun _ _ _ => rstr) (fun _ _ _ => rstr) (fun _ _ => .str _) (fun _ _ _ q => .inr (.inl ⟨a, b, rfl, rfl, l, q⟩)) h
theorem w2_neSame {a : Str} (h : K (.bl false) m) : W2 W E (oNeF G j W) (.str a) (.str a) r m K := w2_val (fun _ _ _ => rstr) (fun _ _ _ => rstr) (fun _ _ => .bl _) (fun _ _ _ q => .inl ⟨rfl, by rw [decide_eq_true (rfl : V.str a = V.str a)]; exact q⟩) h
theorem w2_eqSame {a : Str} (h : K (.bl true) m) : W2 W E (oEqF G j W) (.str a) (.str a) r m K := w2_val (fun _ _ _ => rstr) (fun _ _ _ => rstr) (fun _ _ => .bl _) (fun _ _ _ q => .inl ⟨rfl, by rw [decide_eq_true (rfl : V.str a = V.str a)]; exact q⟩) h
end
theorem int_len {i : Int} {k : Nat} (hk : 0 < k) (h : i.natAbs.log2 < k) : (Str.ofString (toString i)).length ≤ k + 1 := by
  rw [PySem.ofString_length]
  exact int_text_length_le hk h
/-! ### == of plain data in an except suite -/
section
variable {X : Cx} {W : WX} {E : ET} {r : Rho} {m : Mu} {K : KT} {G : Gx} {j k : Nat} {d d' : D}
def oEqHF (G : Gx) : O2 := fun x y _ H Q => rEq x y H Q ∨ rEqD G.K x y H Q
def oNeHF (G : Gx) : O2 := fun x y _ H Q => rNe x y H Q ∨ rNeD G.K x y H Q
theorem roomH64 {A : Around} (hr : L2H.RoomH j A) : A.units + 64 < cLine := by have := hr.un; omega
theorem os_eqHF (hr : L2H.RoomH j X.A) : OpS X (compareOp .Eq) (oEqHF (Gx.of X)) := (OpS.of op_eq).or (OpS.of (op_eqD (roomH64 hr)))
theorem os_neHF (hr : L2H.RoomH j X.A) : OpS X (compareOp .NotEq) (oNeHF (Gx.of X)) := (OpS.of op_ne).or (OpS.of (op_neD (roomH64 hr)))
theorem w2_eqHFI {i k : Int} (h : K (.bl (decide (i = k))) m) : W2 W E (oEqHF G) (.int i) (.int k) r m K := w2_val (fun _ _ _ => rint) (fun _ _ _ => rint) (fun _ _ => .bl _) (fun _ _ _ q => .inl ⟨rfl, by rw [dec_int, ← Bool.beq_eq_decide_eq] at *; exact q⟩) h
theorem w2_neHFI {i k : Int} (h : K (.bl (!decide (i = k))) m) : W2 W E (oNeHF G) (.int i) (.int k) r m K := w2_val (fun _ _ _ => rint) (fun _ _ _ => rint) (fun _ _ => .bl _) (fun _ _ _ q => .inl ⟨rfl, by rw [dec_int, ← Bool.beq_eq_decide_eq] at *; exact q⟩) h
theorem w2_eqHFs {p : PyData} (h1 : PD d p) (s1 : SeqAt.shaped p = true) (h : K (.bl true) m) : W2 W E (oEqHF G) d d r m K := fun s H Q a b e z ra rb g =>
  .inr ⟨p, p, h1.dp ra, h1.dp rb, s1, s1, g _ m _ H (Stp.refl _ _) e.mu (.bl _) (by rw [PySem.SeqAt.eqv_refl p (SeqAt.canLay_of_shaped s1)]; exact h)⟩
end
/-! ### a stronger promise gives a weaker one -/
theorem Fnx.imp {G : Gx} {k n : Nat} {f : Addr} {S S' : SpecD} {dd : List D} (F : Fnx G k f n S dd) (h : ∀ ds m K E, S' ds m K E → S ds m K E) : Fnx G k f n S' dd := by
  obtain ⟨⟨fd, ps, ds, F, b, d⟩, cs⟩ := F
  exact ⟨⟨fd, ps, ds, F.imp fun vs H Q E ⟨ds, m, K, E', a, b, c, q, d, e⟩ => ⟨ds, m, K, E', a, b, c, h _ _ _ _ q, d, e⟩, b, d⟩, cs⟩
theorem Mak.imp {G : Gx} {k n : Nat} {x : Str} {C : Addr} {S S' : SpecD} {dd : List D} (M : Mak G k x C n S dd) (h : ∀ ds m K E, S' ds m K E → S ds m K E) : Mak G k x C n S' dd :=
  ⟨let ⟨f, F, M⟩ := M.ex; ⟨f, F.imp h, M⟩, M.mgC⟩
end DL
set_option Elab.async false
set_option linter.all false
set_option maxRecDepth 100000
/-! DL15: an own instance ** a number. -/
namespace DL
open PySem PySem.Spec L2
open PyProof.Rows hiding St
structure PowC (K : PySem.W.Frag) (C : Addr) : Prop where
  rp : PySem.W.findIn K (.ref C) (dunderR "pow") = some none
  sb : PySem.W.subIn K (.type "int") (.ref C) = some false
section
variable {X : Cx} {W : WX} {j : Nat}
def oOwnI (G : Gx) (j : Nat) (W : WX) : O2 := fun x y σ H Q => ∃ (a C dx : Addr) (fs : List (Str × V)) (k : Nat) (S : SpecD) (i : Int), x = .ref a ∧ H a = some (.ins C dx fs) ∧ y = .int i ∧ PowC G.K C ∧ k ≤ j ∧ Opr G k C "__pow__" 2 S ∧ spD 2 S [x, y] H Q (WE W σ)
theorem os_ownI (hr : Room j X.A) (tk : L2N.Takes X W) : OpS X (binaryOp .Pow) (oOwnI (Gx.of X) j W) := by
  intro pins s σ H x y u v Q I rx ry h
  obtain ⟨a, C, dx, fs, k, S, i, rfl, ha, rfl, pc, hk, O, q⟩ := h
  obtain rfl : u = Value.ref a := rx
  obtain ⟨t, e⟩ := (show ∃ t, v = Value.int i t from ry)
  subst e
  obtain ⟨f, ⟨⟨fd, ps, ds, F, bd, d⟩, cs⟩, h1, h2⟩ := O.ex
  obtain ⟨od, J⟩ := inst_of I ha
  obtain ⟨m, fr⟩ := I.fr
  refine PySem.W.ksp_binT (T := "int") (op := .Pow) (rc := none) fr I.ok.mod.kin J rfl O.sf h1 h2 pc.rp (.inl rfl) rfl rfl pc.sb ?_
  exact wpAny_mono (run_fnSD (E := WE W) (us := [.ref a, .int i t]) (vs := [.ref a, .int i]) F (hr.mono hk) bd d (L2N.passAt tk σ) I (.cons rfl (.cons ry .nil)) q) (fun r s' hq => back_of hq) fun _ _ z => z
def oPowF (G : Gx) (j : Nat) (W : WX) : O2 := fun x y s H Q => rI CPow (fun i j => .int (i ^ j.toNat)) x y H Q ∨ oOwnI G j W x y s H Q
theorem os_powF (hr : Room j X.A) (tk : L2N.Takes X W) : OpS X (binaryOp .Pow) (oPowF (Gx.of X) j W) := (OpS.of op_pow).or (os_ownI hr tk)
end
section
variable {W : WX} {E : ET} {r : Rho} {m : Mu} {K : KT} {G : Gx} {j k : Nat} {C : Addr} {ns : List Str} {ds : List D} {S : SpecD} {d : D}
theorem w2_powF {i k : Int} (h : CPow i k ∧ K (.int (i ^ k.toNat)) m) : W2 W E (oPowF G j W) (.int i) (.int k) r m K := w2_val (fun _ _ _ => rint) (fun _ _ _ => rint) (fun _ _ => .int _) (fun _ _ _ q => .inl ⟨i, k, rfl, rfl, h.1, q⟩) h.2
theorem w2_powO {i : Int} (O : Opr G k C "__pow__" 2 S) (hk : k ≤ j) (fi : FldD d m C ns ds) (pc : PowC G.K C) (h : S [d, .int i] m K fun x m' => E x r m') : W2 W E (oPowF G j W) d (.int i) r m K := fun s H Q a b e z ra rb g => by
  obtain ⟨p, dx, gs, rfl, hp, _⟩ := fi.look e.mu ra
  cases rb
  exact .inr ⟨p, C, dx, gs, k, S, i, rfl, hp, rfl, pc, hk, O, spD_of rfl e z g (.cons ra (.cons (.int i) .nil)) h fun _ _ q => q⟩
end
end DL
set_option Elab.async false
set_option linter.all false
set_option maxRecDepth 100000
/-! DL16: a field written anew; a list that is not written any more. -/
namespace DL
open PySem PySem.Spec L2
open PyProof.Rows hiding St
def setF (f : Str) : List Str → List D → D → List D
  | n :: ns, d :: ds, x => if f = n then x :: ds else d :: setF f ns ds x
  | _, ds, _ => ds
theorem RepF.put {M : Addr → Prop} {H : Hp} {f : Str} {x : D} {y : V} (q : Rep M H x y) : ∀ {n : List Str} {d : List D} {v : List (Str × V)}, RepF M H n d v → n.contains f = true → RepF M H n (setF f n d x) (putF f y v)
  | _, _, _, .nil, h => by cases h
  | n :: ns, d :: ds, (_, v) :: vs, .cons r t, h => by
    unfold setF
    by_cases e : f = n
    · subst e
      rw [if_pos rfl]
      have e0 : putF f y ((f, v) :: vs) = (f, y) :: vs := by
        show (if f = f then (f, y) :: vs else (f, v) :: putF f y vs) = _
        rw [if_pos rfl]
      rw [e0]
      exact .cons q t
    · rw [if_neg e]
      have e0 : putF f y ((n, v) :: vs) = (n, v) :: putF f y vs := by
        show (if n = f then (n, y) :: vs else (n, v) :: putF f y vs) = _
        rw [if_neg (Ne.symm e)]
      rw [e0]
      have h' : ns.contains f = true := by
        rw [List.contains_cons] at h
        have : (f == n) = false := by simpa using e
        rw [this, Bool.false_or] at h
        exact h
      exact .cons r (RepF.put q t h')
section
variable {W : WX} {E : ET} {r : Rho} {m : Mu} {K : KT} {P : DEnds} {G : Gx} {te to : TE} {t : TS}
theorem ws_fldS {f : Str} (h : We W E te r m fun d m1 => We W E to r m1 fun o m2 => ∃ p C ns ds m3, o = .ref p ∧ At m2 p (.ins C ns ds) ∧ Cls G.K C ∧ NoAttr G.K C f ∧ ns.contains f = true ∧ Nat.ble ns.length 900 = true ∧ Put m2 p (.ins C ns (setF f ns ds d)) m3 ∧ P.nx r m3) : Ws W E (sFld G.K to te f) r m P := fun s H De e z g =>
  h s H _ e z fun d m1 v H1 s1 mu1 r1 q1 => q1 s H1 _ (e.step s1 mu1) (z.step s1) fun o m2 vo H2 s2 mu2 r2 q2 => by
    obtain ⟨p, C, ns, ds, m3, rfl, ha, hc, hn, hf, hl, hp, k⟩ := q2
    cases r2
    have q := ha.rep mu2
    cases q with
    | ins hh rf =>
      have st : ∀ o, Stp (dom m2) H2 (dom m3) (upd H2 p o) := fun o => hp.stp
      refine ⟨p, C, _, _, rfl, hh, hc, hn, by rw [rf.lens]; have := Nat.le_of_ble_eq_true hl; omega, ?_⟩
      exact g.nx r m3 s _ ((s1.trans s2).trans (st _)) (((e.step s1 mu1).step s2 mu2).step (st _) (hp.mut mu2 (.ins upd_same ((RepF.put (r1.mono s2) rf hf).mono (st _))))) k
theorem set_same {α : Type} : ∀ {l : List α} {i : Nat} {a : α}, l[i]? = some a → l.set i a = l
  | [], _, _, h => by simp at h
  | x :: l, 0, a, h => by
    simp at h
    subst h
    rfl
  | x :: l, i + 1, a, h => by
    have h' : l[i]? = some a := by simpa using h
    rw [List.set_cons_succ, set_same h']
/-- a list that is not written any more -/
theorem Ws.freeze {i : Nat} {p : Addr} {xs : List D} (hr : r[i]? = some (some (.ref p))) (h : Ws W E t (r.set i (some (.lst xs))) m P) : Ws W E t r ((p, .lst xs) :: m) P := fun s H De e z g => by
  have mu := e.mu
  have ls : Stp (dom ((p, MO.lst xs) :: m)) H (dom m) H := Stp.less fun a z => dom_cons.mpr (.inr z)
  have nd := mu.notin
  have at1 := (At.head (m := m) (p := p) (o := .lst xs)).rep mu
  cases at1 with
  | lst hh rf =>
    have e2 : EnvR (r.set i (some (.lst xs))) m s H := by
      have e1 := e.env.mono ls
      obtain ⟨y, hy, ry⟩ := e1.get hr
      cases ry
      have q := e1.set (.some (.lst nd (.inl hh) (rf.mono ls))) i
      rw [set_same hy] at q
      exact ⟨q, mu.drop⟩
    exact h s H De e2 (z.step ls) ⟨fun r' m' s' H' a b k => g.nx r' m' s' H' (ls.trans a) b k, fun d m' v H' a b c k => g.rt d m' v H' (ls.trans a) b c k, fun r' m' s' H' a b k => g.bk r' m' s' H' (ls.trans a) b k, fun r' m' s' H' a b k => g.ct r' m' s' H' (ls.trans a) b k⟩
end
end DL
set_option Elab.async false
set_option linter.all false
set_option maxRecDepth 100000
/-! DL17: how often a bool stands in a list; bit_length. -/
namespace DL
open PySem PySem.Spec L2
open PyProof.Rows hiding St
section
variable {X : Cx}
def eqb (k : Bool) : Value → Bool
  | .bool b => b == k
  | _ => false
theorem eqb_count (k : Bool) : ∀ bs : List Bool, (bs.map Value.bool).countP (eqb k) = bs.count k
  | [] => rfl
  | b :: bs => by
    rw [List.map_cons, List.countP_cons, eqb_count k bs, List.count_cons]
    rfl
def rCntB (K : PySem.W.Frag) : V → List V → Hp → VK → Prop := fun x xs H Q => ∃ (p : Addr) (bs : List Bool) (k : Bool), x = .ref p ∧ xs = [.bl k] ∧ SqL K H p (bs.map V.bl) ∧ Q (.int (bs.count k : Nat)) H
theorem mt_bcount : MtR X "list.count" (rCntB X.K) := by
  intro pins s σ H x xs v us Q I rx rxs h
  obtain ⟨p, bs, k, rfl, rfl, hs, q⟩ := h
  cases rx
  obtain ⟨u, rfl, ru⟩ := rxs.one
  cases ru
  obtain ⟨its, rv, ⟨⟨cls, dd, data, sl⟩, n, ho, hc, hdn, hd⟩, hlen⟩ := I.list hs
  simp only at hc hd
  subst hc hd
  have hb := rv.bls
  subst hb
  refine call_meets PySem.F.slot_list_count ⟨_, ho, rfl⟩ PySem.F.entry_list_count (PySem.F.args_list_count_2 _ _)
    (SeqAt.list_countAt p (bs.map Value.bool).toArray n dd sl (.bool k) (eqb k)) ⟨ho, fun y hy => ?_, ?_⟩
  · have hy' : y ∈ bs.map Value.bool := by simpa using hy
    obtain ⟨b, _, rfl⟩ := List.mem_map.mp hy'
    exact SeqAt.EqAt.bool_bool b k
  have ec : (bs.map Value.bool).toArray.toList.countP (eqb k) = bs.count k := eqb_count k bs
  refine ⟨.int (bs.count k : Nat), H, I.tok _, ⟨s.toks, ?_⟩, q⟩
  show Value.int (((bs.map Value.bool).toArray.toList.countP (eqb k) : Nat) : Int) s.toks = Value.int ((bs.count k : Nat) : Int) s.toks
  rw [ec]
end
section
variable {W : WX} {E : ET} {r : Rho} {m : Mu} {K : KT} {to : TE}
theorem we_bits (h : We W E to r m fun d m1 => ∃ i, d = .int i ∧ K (.int (Builtin.Int.intBits i : Nat)) m1) : We W E (tBits to) r m K := fun s H Q e z g =>
  h s H _ e z fun d m1 v H1 s1 mu1 r1 ⟨i, ed, k⟩ => by
    subst ed
    cases r1
    exact ⟨i, rfl, g _ m1 _ H1 s1 mu1 (.int _) k⟩
end
end DL
set_option Elab.async false
set_option linter.all false
set_option maxRecDepth 100000
/-! DL18: two new lists joined. -/
namespace DL
open PySem PySem.Spec L2
open PyProof.Rows hiding St
section
variable {W : WX} {E : ET} {r : Rho} {m : Mu} {K : KT} {G : Gx} {j : Nat}
/-- xs + zs: both were made just now; neither is written any more -/
theorem w2_catM {a b : Addr} {xs zs : List D} (hl : Nat.ble (xs.length + zs.length) 1000 = true) (h : K (.lst (xs ++ zs)) m) : W2 W E (oAdd G j W) (.ref a) (.ref b) r ((b, .lst zs) :: (a, .lst xs) :: m) K := fun s H Q x y e z rx ry g => by
  cases rx
  cases ry
  have q1 := (At.tail .head : At ((b, MO.lst zs) :: (a, MO.lst xs) :: m) a (.lst xs)).rep e.mu
  have q2 := (At.head : At ((b, MO.lst zs) :: (a, MO.lst xs) :: m) b (.lst zs)).rep e.mu
  have mu := e.mu.drop.drop
  have ls : Stp (dom ((b, MO.lst zs) :: (a, MO.lst xs) :: m)) H (dom m) H := Stp.less fun a z => dom_cons.mpr (.inr (dom_cons.mpr (.inr z)))
  cases q1 with
  | lst h1 r1 =>
    cases q2 with
    | lst h2 r2 =>
      refine .inr (.inr (.inl ⟨a, b, _, _, rfl, rfl, .inl h1, .inl h2, ?_, fun p hp => ?_⟩))
      · rw [← r1.length, ← r2.length]
        exact Nat.le_trans (Nat.le_of_ble_eq_true hl) (by decide : 1000 ≤ sizeLine)
      · exact g _ m _ _ (ls.trans (Stp.new hp)) (mu.new hp) (.lst (fun zz => by obtain ⟨u, hu⟩ := mu.there zz; rw [hp] at hu; cases hu) (.inl upd_same) ((Reps.append r1 r2).mono (ls.trans (Stp.new hp)))) h
/-- the two newest mutable objects the other way round -/
theorem Ws.swap {t : TS} {P : DEnds} {p q : Addr × MO} (h : Ws W E t r (q :: p :: m) P) : Ws W E t r (p :: q :: m) P := fun s H De e z g => by
  have ls : Stp (dom (p :: q :: m)) H (dom (q :: p :: m)) H := Stp.less fun a z => by
    rcases dom_cons.mp z with z | z
    · exact dom_cons.mpr (.inr (dom_cons.mpr (.inl z)))
    · rcases dom_cons.mp z with z | z
      · exact dom_cons.mpr (.inl z)
      · exact dom_cons.mpr (.inr (dom_cons.mpr (.inr z)))
  have mu := e.mu
  have nd := mu.nd
  have mu2 : MutR (q :: p :: m) H := by
    refine ⟨?_, fun x hx => ?_⟩
    · simp only [List.map_cons] at nd ⊢
      have h1 := List.nodup_cons.mp nd
      have h2 := List.nodup_cons.mp h1.2
      refine List.nodup_cons.mpr ⟨fun z => ?_, List.nodup_cons.mpr ⟨fun z => h1.1 (List.mem_cons_of_mem _ z), h2.2⟩⟩
      rcases List.mem_cons.mp z with z | z
      · exact h1.1 (by rw [← z]; exact List.mem_cons_self)
      · exact h2.1 z
    · have hx' : x ∈ p :: q :: m := by
        rcases List.mem_cons.mp hx with z | z
        · exact List.mem_cons_of_mem _ (by rw [z]; exact List.mem_cons_self)
        · rcases List.mem_cons.mp z with z | z
          · rw [z]; exact List.mem_cons_self
          · exact List.mem_cons_of_mem _ (List.mem_cons_of_mem _ z)
      exact (mu.at_ x hx').mono ls fun _ e => e
  exact h s H De ⟨e.env.mono ls, mu2⟩ (z.step ls) ⟨fun r' m' s' H' a b k => g.nx r' m' s' H' (ls.trans a) b k, fun d m' v H' a b c k => g.rt d m' v H' (ls.trans a) b c k, fun r' m' s' H' a b k => g.bk r' m' s' H' (ls.trans a) b k, fun r' m' s' H' a b k => g.ct r' m' s' H' (ls.trans a) b k⟩
/-- xs.count(k), bools all -/
theorem we_bcnt {to : TE} {ta : TA} (h : We W E to r m fun o m1 => ∃ (xs : List D) (bs : List Bool), o = .lst xs ∧ xs = bs.map D.bl ∧ Wa W E ta r m1 fun ds m2 => ∃ k, ds = [.bl k] ∧ K (.int (bs.count k : Nat)) m2) : We W E (tBM G.K "list" (rCntB G.K) to ta) r m K := fun s H Q e z g =>
  h s H _ e z fun o m1 v H1 s1 mu1 r1 q => by
    obtain ⟨xs, bs, rfl, rfl, q⟩ := q
    cases r1 with
    | @lst a _ vs mm hh rr =>
      have e1 := rep_bls rr
      subst e1
      refine ⟨Or.inl ⟨rfl, _, rd_l hh⟩, ?_⟩
      refine q s H1 _ (e.step s1 mu1) (z.step s1) fun ds m2 vs H2 s2 mu2 r2 q2 => ?_
      obtain ⟨k, rfl, kk⟩ := q2
      cases r2 with
      | cons rd t =>
        cases t
        cases rd
        exact ⟨a, bs, k, rfl, rfl, rd_l (s2.rd mm hh).1, g _ m2 _ _ (s1.trans s2) mu2 (.int _) kk⟩
end
section
variable {X : Cx} {KK : PySem.W.Frag} {o e : Expr} {es : List Expr} {to : TE} {t : TA} {apos cpos : Pos}
/-- .. as a term, also within an except suite -/
theorem pe_cntK (hK : X.K = KK) (ho : PE X o to) (ha : PA X (e :: es) t)
    (hbase : attributeBase o "count" X.env (eval o X.env) = eval o X.env := by rfl)
    (hfew : ((backTo cpos (starEach (e :: es) X.env)).all (fun x => !x.1) && (backToKw cpos (keywordEach [] X.env)).all (fun x => x.1.isSome)
      && decide ((e :: es).length + ([] : List Keyword).length + (if ([] : List Keyword).isEmpty then 0 else 1) < 30)) = true := by rfl)
    (hline : (apos.endLine == cpos.line) = true := by rfl) (hs : starEach (e :: es) X.env = (false, eval e X.env) :: starEach es X.env := by rfl) (hplain : (backTo cpos (starEach es X.env)).any (·.1) = false := by rfl) :
    PE X (.Call (.Attribute o "count" apos) (e :: es) [] cpos) (tBM KK "list" (rCntB KK) to t) := by
  subst hK
  exact pe_bm PySem.F.plainAttrs_list PySem.F.slot_list_count PySem.F.type_list_count mt_bcount ho ha hbase hfew hline hs hplain
end
end DL
set_option Elab.async false
set_option linter.all false
set_option maxRecDepth 100000
/-! DL19: try with several clauses, each with a name: except X as n: .., except Y as k: .. -/
namespace DL
open PySem PySem.Spec L2
open PyProof.Rows hiding St
section
variable {X : Cx} {pins : List (Addr × Obj)} {σ : L2.St} {H : Hp} {s sI : Shared} {a : Addr} {cls : Value} {d : Option Addr} {B : Heap}
/-- a caught exception at a: the state s is sI but for it -/
structure Got (X : Cx) (pins : List (Addr × Obj)) (σ : L2.St) (H : Hp) (sI s : Shared) (a : Addr) (cls : Value) (d : Option Addr) (B : Heap) : Prop where
  inv : Inv X pins σ H sI
  old : ∀ b o, sI.heap.get? b = some o → b ∉ frs X.stack → B.get? b = some o
  up : sI.heap.UpToSlots s.heap
  fly : HandSPX.FlyingZ B (X.env :: X.outer) a (L2N.Zn cls d) s.heap
  os : s.os = sI.os
  gens : AllBare s.gens
  na : H a = none
theorem Got.here (g : Got X pins σ H sI s a cls d B) : Inv X pins σ H s := g.inv.landed g.old g.fly.1 g.up g.os g.gens
theorem Got.again {h : Heap} (g : Got X pins σ H sI s a cls d B) (f : HandSPX.FlyingZ B (X.env :: X.outer) a (L2N.Zn cls d) h) (u : s.heap.UpToSlots h) : Got X pins σ H sI { s with heap := h } a cls d B :=
  ⟨g.inv, g.old, g.up.trans u, f, g.os, g.gens, g.na⟩
/-- the suite's state -/
theorem Got.low {oe : Obj} {vs : Array Value} (g : Got X pins σ H sI s a cls d B) (hf : X.env.frame = some X.env.locals) (ho : s.heap.get? a = some oe) (hd : oe.data = .fields vs) :
    Inv (X.suite a ((a, oe) :: (X.pn ++ pins))) [] σ H s := by
  have off : a ∉ frs (X.env :: X.outer) := fun m => by
    obtain ⟨_, u, e, n⟩ := g.fly.2.2.1.mem m
    cases ho.symm.trans e
    exact n _ hd
  refine g.here.suite ho hd g.na (fun e => off ?_) (fun m => off ?_)
  · exact List.mem_filterMap.mpr ⟨X.env, .head _, by rw [hf, e]⟩
  · obtain ⟨v, m1, m2⟩ := List.mem_filterMap.mp m
    exact List.mem_filterMap.mpr ⟨v, .tail _ m1, m2⟩
abbrev Hnd (X : Cx) (pins : List (Addr × Obj)) (D : Ends) (hs : List ExceptHandler) (a : Addr) (s : Shared) : Prop := wpAny (model X.prog X.w) X.A (handleBy (.ref a) X.env hs) (SP X pins D) X.xe s
/-- no clause is left: it flies on -/
theorem Got.none {W : WX} {D : Ends} (g : Got X pins σ H sI s a cls d B) (hs : X.stack = X.env :: X.outer) (hf : X.env.frame = some X.env.locals) (tk : L2N.Takes X W) (w : W cls d σ H) : Hnd X pins D [] a s := by
  refine wpAny_handleBy_nil ?_
  obtain ⟨oe, vs, t, ot, ts, ho, _, hd, h1, _⟩ := id g.fly.2.2.2
  have fin : wpAny (model X.prog X.w) X.A (setFlight (.ref a) X.env.frame) (fun _ s1 => wpAny (model X.prog X.w) X.A (throw (.ref a) : Sem Flow) (SP X pins D) X.xe s1) X.xe s := by
    rw [hf]
    exact HandSPX.setFlight_upZ g.fly fun h hh u => wpAny_throw (tk _ _ ⟨a, B, sI, pins, σ, H, cls, d, rfl, g.inv, g.old, g.up.trans u, .inr (.inr (by rw [hs]; exact hh)), g.na, g.os, g.gens, w⟩)
  unfold PySem.passOn
  refine wpAny_bind (wpAny_field ho hd h1 ?_)
  have nn : ¬ (Value.ref t == Value.none) = true := by simp
  rw [if_neg nn]
  first
    | exact wpAny_bind (wpAny_pure (wpAny_bind fin))
    | exact wpAny_bind fin
/-- one clause is asked; it takes it, or the others are asked -/
theorem Got.clause {x n : Str} {c : Value} {i : Nat} {b₀ : Stmt} {suite : List Stmt} {np p2 : Pos} {rest : List ExceptHandler} {ts : Addr → Value → Option Addr → TS} {W : WX} {D : Ends} (g : Got X pins σ H sI s a cls d B)
    (hf : X.env.frame = some X.env.locals) (hN : X.N.Nodup) (hi : X.N[i]? = some n) (hl : X.env.kindOf n = some .local) (hc : Names X x c)
    (su : ∀ (a : Addr) (oe : Obj) (cls : Value) (d : Option Addr) (pn : List (Addr × Obj)), L2N.Zn cls d oe → (∃ vs, oe.data = .fields vs) → PSs (X.suite a ((a, oe) :: pn)) (b₀ :: suite) (ts a cls d))
    (w : wAs X.K c i ts W D cls d σ H) (k : W cls d σ H → Hnd X pins D rest a s) : Hnd X pins D (.ExceptHandler (some (.Name x np)) (some n) (b₀ :: suite) p2 :: rest) a s := by
  obtain ⟨oe, vs, ho, hz, hd⟩ := g.fly.there
  have low := g.low hf ho hd
  obtain ⟨b, hb, yes, no⟩ := w
  refine wpAny_handleBy_cons (codeAny_handlers_test ?_) (fun q => nomatch q)
  have ask : ∀ {Q E : Value → Shared → Prop}, Q c s → wpAny (model X.prog X.w) (X.A.mark (some (.ref a))) (eval (.Name x np) X.env) Q E s := fun q => by
    rcases hc with ⟨h1, h2, h3 | ⟨h3, h4, h5⟩⟩
    · exact ld_glob (X := X.suite a ((a, oe) :: (X.pn ++ pins))) low h1 h3 q h2
    · exact ld_blt (X := X.suite a ((a, oe) :: (X.pn ++ pins))) low h1 h3 h4 q h5 h2
  have ty : PySem.W.Looks (model X.prog X.w) s.heap (typeOf (.ref a)) cls := fun A Q E z l q => wpAny_typeOf_ref (l _ _ ho) (by rw [hz.1]; exact q)
  refine ask ((PySem.W.exm_one (M := model X.prog X.w) g.here.kIn ty hb).here ?_)
  cases b with
  | false => exact k (no rfl)
  | true =>
    refine codeAny_handlers_suite_as (HandSPX.lands_againZ g.fly fun h fl u => ?_)
    have g2 := g.again fl u
    obtain ⟨oe2, vs2, ho2, hz2, hd2⟩ := g2.fly.there
    refine store_ok (X := X.suite a ((a, oe2) :: (X.pn ++ pins))) (v := .ref a) (g2.low hf ho2 hd2) hN hi (.inl hl) rfl (fun s5 S5 => ?_) (.inr hl)
    have run := (su a oe2 cls d (X.pn ++ pins) hz2 ⟨vs2, hd2⟩).run [] s5 _ H _ S5 (yes rfl a g.na)
    refine wpAny_mono run (fun f s6 z => ?_) (fun _ _ z => z.elim)
    have bye : ∀ {σ6 : L2.St} {H6 : Hp} {Q : Shared → Prop}, Inv (X.suite a ((a, oe2) :: (X.pn ++ pins))) [] σ6 H6 s6 → (∀ s7, Inv X pins (σ6.set i Option.none) H6 s7 → Q s7) →
        wpAny (model X.prog X.w) X.A (do bindName X.env n .none; unbindBehindTheSuite X.env n p2) (fun _ s7 => Q s7) X.xe s6 := fun S6 q => gone_ok (S6.unsuite g.inv.ok) hN hi hl q
    cases f with
    | ret u =>
      obtain ⟨v, σ6, H6, S6, rv, q⟩ := z
      exact bye S6 fun s7 J => ⟨_, _, _, J, rv, q⟩
    | next =>
      obtain ⟨σ6, H6, S6, q⟩ := z
      exact bye S6 fun s7 J => ⟨_, _, J, q⟩
    | brk =>
      obtain ⟨σ6, H6, S6, q⟩ := z
      exact bye S6 fun s7 J => ⟨_, _, J, q⟩
    | cont =>
      obtain ⟨σ6, H6, S6, q⟩ := z
      exact bye S6 fun s7 J => ⟨_, _, J, q⟩
end
def tTry2 (K : PySem.W.Frag) (c1 : Value) (i1 : Nat) (t1 : Addr → Value → Option Addr → TS) (c2 : Value) (i2 : Nat) (t2 : Addr → Value → Option Addr → TS) (tb : WX → TS) (W : WX) : TS := fun D σ H => tb (wAs K c1 i1 t1 (wAs K c2 i2 t2 W D) D) D σ H
theorem ps_tryD2 {X : Cx} {x1 n1 x2 n2 : Str} {c1 c2 : Value} {i1 i2 : Nat} {b1 b2 : Stmt} {body su1 su2 : List Stmt} {np1 np2 p1 p2 pos : Pos} {tb : WX → TS} {t1 t2 : Addr → Value → Option Addr → TS} {W : WX}
    (hs : X.stack = X.env :: X.outer) (hf : X.env.frame = some X.env.locals) (hN : X.N.Nodup) (hi1 : X.N[i1]? = some n1) (hl1 : X.env.kindOf n1 = some .local) (hi2 : X.N[i2]? = some n2) (hl2 : X.env.kindOf n2 = some .local) (hc1 : Names X x1 c1) (hc2 : Names X x2 c2) (tk : L2N.Takes X W)
    (hb : ∀ (W : WX) (pn : List (Addr × Obj)) (xe : Value → Shared → Prop), L2N.Takes (X.tr pn xe) W → PassesOwn (model X.prog X.w) X.A X.env xe → PSs (X.tr pn xe) body (tb W))
    (hsu1 : ∀ (a : Addr) (oe : Obj) (cls : Value) (d : Option Addr) (pn : List (Addr × Obj)), L2N.Zn cls d oe → (∃ vs, oe.data = .fields vs) → PSs (X.suite a ((a, oe) :: pn)) (b1 :: su1) (t1 a cls d))
    (hsu2 : ∀ (a : Addr) (oe : Obj) (cls : Value) (d : Option Addr) (pn : List (Addr × Obj)), L2N.Zn cls d oe → (∃ vs, oe.data = .fields vs) → PSs (X.suite a ((a, oe) :: pn)) (b2 :: su2) (t2 a cls d)) :
    PS X (.Try body [.ExceptHandler (some (.Name x1 np1)) (some n1) (b1 :: su1) p1, .ExceptHandler (some (.Name x2 np2)) (some n2) (b2 :: su2) p2] [] [] pos) (tTry2 X.K c1 i1 t1 c2 i2 t2 tb W) := by
  constructor
  intro pins s σ H D I h
  have ok := I.ok
  refine wpAny_Try_except ?_
  have B := hb (wAs X.K c1 i1 t1 (wAs X.K c2 i2 t2 W D) D) (X.pn ++ pins) (fun e s1 => wpAny (model X.prog X.w) X.A (noteFrame e X.env) (fun _ s2 => wpAny (model X.prog X.w) X.A (setFlight e none)
    (fun _ s3 => wpAny (model X.prog X.w) X.A (handleBy e X.env [.ExceptHandler (some (.Name x1 np1)) (some n1) (b1 :: su1) p1, .ExceptHandler (some (.Name x2 np2)) (some n2) (b2 :: su2) p2]) (SP X pins D) X.xe s3) X.xe s2) X.xe s1) ?tk PassesOwn.looking
  case tk =>
    rintro u s' ⟨a, B, sI, pins', σ', H', cls, d, rfl, J, nb, up, sky, na, os, ag, w⟩
    refine L2N.Sky.land (env := X.env) (outer := X.outer) L2N.Zn.steady (by rw [ok.frames, hs]) hf (by rw [← hs]; exact sky) fun h3 fl up3 => ?_
    have g : Got X pins σ' H' sI { s' with heap := h3 } a cls d B := ⟨J.ofTry ok, nb, up.trans up3, fl, os, ag, na⟩
    exact g.clause hf hN hi1 hl1 hc1 hsu1 w fun w2 => g.clause hf hN hi2 hl2 hc2 hsu2 w2 fun w3 => g.none hs hf tk w3
  refine wpAny_mono (B.run [] s σ H D (I.toTry _) h) (fun f s1 z => ?_) fun e s1 z => z
  cases f with
  | next =>
    obtain ⟨σ', H', J, q⟩ := z
    exact wpAny_execs_nil ⟨σ', H', J.ofTry ok, q⟩
  | ret u =>
    obtain ⟨v, σ', H', J, r, q⟩ := z
    exact ⟨v, σ', H', J.ofTry ok, r, q⟩
  | brk =>
    obtain ⟨σ', H', J, q⟩ := z
    exact ⟨σ', H', J.ofTry ok, q⟩
  | cont =>
    obtain ⟨σ', H', J, q⟩ := z
    exact ⟨σ', H', J.ofTry ok, q⟩
section
variable {W : WX} {E : ET} {r : Rho} {m : Mu} {K : PySem.W.Frag} {P : DEnds} {c1 c2 : Value} {i1 i2 : Nat} {tb : WX → TS} {t1 t2 : Addr → Value → Option Addr → TS}
theorem wAs_rz {De : Ends} {c : Value} {i : Nat} {ts : Addr → Value → Option Addr → TS} {H : Hp} (z : Rz W E m H) (g : GoS m H P De) : Rz (wAs K c i ts W De) (eAs K c i ts P E) m H := by
  intro x r' m' cls dd s' H' st er rx ⟨b, hb, ht, hf⟩
  obtain rfl := rx.1
  refine ⟨b, hb, fun hbt a ha => ?_, fun hbf => z x r' m' _ dd s' H' st er rx (hf hbf)⟩
  have g' := g.step st
  refine ht hbt a dd _ H' _ (er.put (repX_exc rx)) (fun _ _ _ _ _ _ _ _ _ _ q => q.elim) ?_
  have back : ∀ {r2 : Rho} {m2 : Mu} {s2 : L2.St} {H2 : Hp}, EnvR r2 m2 s2 H2 → EnvR (r2.set i none) m2 (s2.set i none) H2 := fun e2 => ⟨e2.env.set (.none _) i, e2.mu⟩
  exact ⟨fun r2 m2 s2 H2 a2 b2 q => g'.nx _ m2 _ H2 a2 (back b2) q, g'.rt, fun r2 m2 s2 H2 a2 b2 q => g'.bk _ m2 _ H2 a2 (back b2) q, fun r2 m2 s2 H2 a2 b2 q => g'.ct _ m2 _ H2 a2 (back b2) q⟩
theorem ws_try2 (h : ∀ W', Ws W' (eAs K c1 i1 t1 P (eAs K c2 i2 t2 P E)) (tb W') r m P) : Ws W E (tTry2 K c1 i1 t1 c2 i2 t2 tb W) r m P := fun s H De e z g =>
  h _ s H De e (wAs_rz (wAs_rz z g) g) g
end
end DL
set_option Elab.async false
set_option linter.all false
set_option maxRecDepth 100000
/-! DL20: abs of an own instance; lists joined into a new one that is written later. -/
namespace DL
open PySem PySem.Spec L2
open PyProof.Rows hiding St
section
variable {X : Cx} {W : WX} {j k : Nat} {f : Addr} {fd : FuncData} {ps : List Str} {sp : Sp} {ds : List Value} {dvs : List V} {Ex : L2.St → XK} {CXx : CXT}
/-- an own def that a builtin calls -/
theorem run_in {pins : List (Addr × Obj)} {σ : L2.St} {H : Hp} {s : Shared} {Q : VK} {us : List Value} {vs : List V} (F : FnOk X.prog X.w X.K X.mg X.base CXx k f fd ps sp) (hr : Room (k + 1) X.A) (hb : Binds X.K fd ps ds) (hd : Vals dvs ds) (hx : PassesAt CXx X σ (Ex σ))
    (I : Inv X pins σ H s) (r : Vals vs us) (h : sp (vs ++ dvs) H Q (Ex σ)) : wpAny (model X.prog X.w) X.A.in1 (call (.ref f) us) (EP X pins σ Q) X.xe s := by
  have rr := r.append hd
  have n : (us ++ ds).length = ps.length := rr.length.symm.trans (F.len _ _ _ _ h)
  have go := F.run X.A.in1 X.stack s H ⟨us, []⟩ (us ++ ds) (vs ++ dvs) Q (Ex σ) hr.in1 I.env0.in1 (hb s us I.kIn n) rr h
  refine wpAny_call (codeAny_mono go ?_)
  intro res s' z
  match res, z with
  | .error e, z => exact hx pins H s e s' I z
  | .ok (.ret u), z => exact I.after z
  | .ok .next, z => exact z.elim
  | .ok .brk, z => exact z.elim
  | .ok .cont, z => exact z.elim
def cAbsO (G : Gx) (j : Nat) (W : WX) : OC := fun xs σ H Q => rAbsI xs H Q ∨ ∃ (a C dx : Addr) (fs : List (Str × V)) (k : Nat) (S : SpecD), xs = [.ref a] ∧ H a = some (.ins C dx fs) ∧ k + 1 ≤ j ∧ Opr G k C "__abs__" 1 S ∧ spD 1 S xs H Q (WE W σ)
theorem cs_absO (hr : Room j X.A) (tk : L2N.Takes X W) : CallS X (.builtin "abs") (cAbsO (Gx.of X) j W) := by
  intro pins s σ H xs us Q I ru h
  rcases h with h | h
  · exact cs_abs pins s σ H xs us Q I ru h
  · obtain ⟨a, C, dx, fs, k, S, rfl, ha, hk, O, q⟩ := h
    cases ru with
    | cons r t =>
      cases t
      obtain rfl : _ = Value.ref a := r
      obtain ⟨f, ⟨⟨fd, ps, ds, F, bd, d⟩, cs⟩, h1, h2⟩ := O.ex
      obtain ⟨od, J⟩ := inst_of I ha
      have run := run_in (Ex := WE W) (us := [.ref a]) (vs := [.ref a]) F (hr.mono hk) bd d (L2N.passAt tk σ) I (.cons rfl .nil) q
      refine Calls.call_function_entry kind_abs plain_abs entry_abs (args_abs _) ?_
      unfold Builtin.«abs»
      refine wpAny_bind (m := oneArg "abs" _) (wpAny_pure ?_)
      refine wpAny_bind (m := callSpecial? (.ref a) (Str.ofString "__abs__")) (PySem.W.special_fn I.kIn J h1 (beq_iff_eq.mp h2) ?_)
      refine wpAny_mono run (fun r s' hq => ?_) fun _ _ z => z
      exact wpAny_pure ⟨_, rfl, hq⟩
end
section
variable {W : WX} {E : ET} {r : Rho} {m : Mu} {K : KT} {G : Gx} {j k : Nat} {C : Addr} {ns : List Str} {ds : List D} {S : SpecD} {d : D}
theorem wc_absI {i : Int} (h : K (.int (i.natAbs : Int)) m) : Wc W E (cAbsO G j W) [.int i] r m K := fun s H Q vs e z rs g => .inl (wc_abs (K := K) h s H Q vs e z rs g)
theorem wc_absO (O : Opr G k C "__abs__" 1 S) (hk : k + 1 ≤ j) (fi : FldD d m C ns ds) (h : S [d] m K fun x m' => E x r m') : Wc W E (cAbsO G j W) [d] r m K := fun s H Q vs e z rs g => by
  cases rs with
  | cons rv t =>
    cases t
    obtain ⟨p, dx, gs, rfl, hp, _⟩ := fi.look e.mu rv
    exact .inr ⟨p, C, dx, gs, k, S, rfl, hp, hk, O, spD_of rfl e z g (.cons rv .nil) h fun _ _ q => q⟩
/-- xs + zs, made just now, joined into a list that is written or joined again -/
theorem w2_catN {a b : Addr} {xs zs : List D} (hl : Nat.ble (xs.length + zs.length) 1000 = true) (h : ∀ p, ¬ dom m p → K (.ref p) ((p, .lst (xs ++ zs)) :: m)) : W2 W E (oAdd G j W) (.ref a) (.ref b) r ((b, .lst zs) :: (a, .lst xs) :: m) K := fun s H Q x y e z rx ry g => by
  cases rx
  cases ry
  have q1 := (At.tail .head : At ((b, MO.lst zs) :: (a, MO.lst xs) :: m) a (.lst xs)).rep e.mu
  have q2 := (At.head : At ((b, MO.lst zs) :: (a, MO.lst xs) :: m) b (.lst zs)).rep e.mu
  have mu := e.mu.drop.drop
  have ls : Stp (dom ((b, MO.lst zs) :: (a, MO.lst xs) :: m)) H (dom m) H := Stp.less fun a z => dom_cons.mpr (.inr (dom_cons.mpr (.inr z)))
  cases q1 with
  | lst h1 r1 =>
    cases q2 with
    | lst h2 r2 =>
      refine .inr (.inr (.inl ⟨a, b, _, _, rfl, rfl, .inl h1, .inl h2, ?_, fun p hp => ?_⟩))
      · rw [← r1.length, ← r2.length]
        exact Nat.le_trans (Nat.le_of_ble_eq_true hl) (by decide : 1000 ≤ sizeLine)
      · have st : ∀ o, Stp (dom ((b, MO.lst zs) :: (a, MO.lst xs) :: m)) H (dom ((p, MO.lst (xs ++ zs)) :: m)) (upd H p o) := fun o => ls.trans (Stp.newM hp)
        have nd : ¬ dom m p := fun w => by
          obtain ⟨u, hu⟩ := mu.there w
          rw [hp] at hu
          cases hu
        exact g _ _ _ _ (st _) (mu.newM hp (.lst upd_same ((Reps.append r1 r2).mono (st _)))) (.ref p) (h p nd)
end
end DL
set_option Elab.async false
set_option linter.all false
set_option maxRecDepth 100000
set_option maxHeartbeats 1000000
/-! DLZ: zip of any two of lists and tuples. -/
namespace DL
open PySem PySem.Spec L2
open PyProof.Rows hiding St

/-- what is gone over: a tuple (true) or a list -/
def SIt (k : Bool) (h : Heap) (i l : Addr) (n : Nat) : Prop := match k with
  | true => h.IsTupleIter i l n
  | false => h.IsListIter i l n
def SSq (k : Bool) (h : Heap) (l : Addr) (xs : Array Value) : Prop := match k with
  | true => h.IsTuple l xs
  | false => h.IsList l xs
theorem SIt.ext {k : Bool} {h h' : Heap} {i l c : Addr} {n : Nat} (x : SIt k h i l n) (e : Heap.ExtBut c h h') (ne : i ≠ c) : SIt k h' i l n := match k, x with
  | true, x => Heap.IsTupleIter.extBut x e ne
  | false, x => Heap.IsListIter.extBut x e ne
theorem SIt.obj {k : Bool} {h : Heap} {i l : Addr} {n : Nat} (x : SIt k h i l n) : ∃ o, h.get? i = some o ∧ ∀ v, o.data ≠ .cell v := match k, x with
  | true, x => by
    obtain ⟨o, e, _, d⟩ := x
    exact ⟨o, e, fun v q => by rw [d] at q; cases q⟩
  | false, x => by
    obtain ⟨o, e, _, d⟩ := x
    exact ⟨o, e, fun v q => by rw [d] at q; cases q⟩
theorem SIt.at {k : Bool} {h h' : Heap} {i l : Addr} {n : Nat} (x : SIt k h i l n) (e : ∀ o, h.get? i = some o → h'.get? i = some o) : SIt k h' i l n := match k, x with
  | true, x => Heap.IsTupleIter.at x e
  | false, x => Heap.IsListIter.at x e
theorem SSq.ext {k : Bool} {h h' : Heap} {l c : Addr} {xs : Array Value} (x : SSq k h l xs) (e : Heap.ExtBut c h h') (ne : l ≠ c) : SSq k h' l xs := match k, x with
  | true, x => Heap.IsTuple.extBut x e ne
  | false, x => Heap.IsList.extBut x e ne
theorem SSq.push {k : Bool} {h : Heap} {l : Addr} {xs : Array Value} (x : SSq k h l xs) (o : Obj) : SSq k (h.push o) l xs := match k, x with
  | true, x => Heap.IsTuple.push x o
  | false, x => Heap.IsList.push x o
theorem SSq.lt {k : Bool} {h : Heap} {l : Addr} {xs : Array Value} (x : SSq k h l xs) : l < h.objs.size := match k, x with
  | true, x => by
    obtain ⟨o, e, _⟩ := x
    exact Heap.lt_size e
  | false, x => by
    obtain ⟨o, e, _⟩ := x
    exact Heap.lt_size e
/-- the new iterator over it -/
def itO (k : Bool) (l : Addr) : Obj := { cls := .type (match k with | true => "tuple_iterator" | false => "list_iterator"), data := .fields #[.ref l, .int 0 0] }
theorem SIt.of {k : Bool} {h : Heap} {i l : Addr} (e : h.get? i = some (itO k l)) : SIt k h i l 0 := match k, e with
  | true, e => ⟨_, e, rfl, rfl⟩
  | false, e => ⟨_, e, rfl, rfl⟩
section
variable {prog : Program} {w : World} {A : Around} {E : Value → Shared → Prop} {s : Shared} {k kb : Bool}
theorem nextS_item {it l : Addr} {i : Nat} {items : Array Value} {x : Value} {Q : Value → Shared → Prop} (hit : SIt k s.heap it l i) (hl : SSq k s.heap l items) (hx : items[i]? = some x)
    (hQ : ∀ h', SIt k h' it l (i + 1) → Heap.SameBut it s.heap h' → Q x { s with heap := h' }) : wpAny (model prog w) A (Builtin.SmallTypes.nextOf (.ref it)) Q E s := by
  cases k with
  | true => exact RZ.nextOf_tuple_item hit hl hx hQ
  | false => exact wpAny_nextOf_list_item hit hl hx hQ
theorem nextS_end {it l : Addr} {i : Nat} {items : Array Value} {Q : Value → Shared → Prop} (hh : A.handled = none) (hit : SIt k s.heap it l i) (hl : SSq k s.heap l items) (hx : items[i]? = none)
    (hE : ∀ h' e, Heap.ExtBut it s.heap h' → (∃ o, h'.get? e = some o ∧ o.cls = .type "StopIteration") → E (.ref e) { s with heap := h' }) : wpAny (model prog w) A (Builtin.SmallTypes.nextOf (.ref it)) Q E s := by
  cases k with
  | true => exact RZ.nextOf_tuple_end hh hit hl hx hE
  | false => exact wpAny_nextOf_list_end hh hit hl hx hE
theorem pyIterS {l : Addr} {items : Array Value} {Q : Value → Shared → Prop} (hl : SSq k s.heap l items) (hQ : Q (.ref s.heap.objs.size) { s with heap := s.heap.push (itO k l) }) : wpAny (model prog w) A (pyIter (.ref l)) Q E s := by
  cases k with
  | true => exact wpAny_pyIter_tuple hl hQ
  | false => exact wpAny_pyIter_list hl hQ

/-- one turn of zip: a pair, or the end of one of the two -/
theorem zipS_next {z TI TO i1 i2 l1 l2 : Addr} {n1 n2 : Nat} {xs ys : Array Value} {a b : Value} {Q : Value → Shared → Prop} (hh : A.handled = none) (D : ZipApart z TI TO i1 i2 l1 l2)
    (hz : IsZip s.heap z TI TO .none) (hTI : IsPair s.heap TI (.ref i1) (.ref i2)) (hTO : IsPair s.heap TO a b)
    (h1 : SIt k s.heap i1 l1 n1) (h2 : SIt kb s.heap i2 l2 n2) (hl1 : SSq k s.heap l1 xs) (hl2 : SSq kb s.heap l2 ys)
    (hQ : ∀ x y h', xs[n1]? = some x → ys[n2]? = some y → IsZip h' z TI TO (rawInt s.heap.objs.size) → IsPair h' TO x y → SIt k h' i1 l1 (n1 + 1) → SIt kb h' i2 l2 (n2 + 1) → IsPair h' s.heap.objs.size x y →
      (∀ c o, c ≠ z → c ≠ TO → c ≠ i1 → c ≠ i2 → s.heap.get? c = some o → h'.get? c = some o) → Q (.ref s.heap.objs.size) { s with heap := h' })
    (hE : xs[n1]? = none ∨ ys[n2]? = none → ∀ h' e, (∀ c o, c ≠ z → c ≠ TO → c ≠ i1 → c ≠ i2 → s.heap.get? c = some o → h'.get? c = some o) → (∃ o, h'.get? e = some o ∧ o.cls = .type "StopIteration") → E (.ref e) { s with heap := h' }) :
    wpAny (model prog w) A (Builtin.«zip.__next__» ⟨[.ref z], []⟩) (fun fin s' => ∃ v, fin = .done (.ret v) ∧ Q v s') E s := by
  show wpAny _ _ (field (.ref z) 2 >>= _) _ _ _
  refine wpAny_bind (wpAny_field hz rfl (x := .bool false) rfl ?_)
  show wpAny _ _ (field (.ref z) 3 >>= _) _ _ _
  refine wpAny_bind (wpAny_field hz rfl (x := .ref TI) rfl (wpAny_bind (wpAny_seqItems hTI rfl ?_)))
  show wpAny _ _ (Builtin.SmallTypes.ownedTupleIsFree (.ref z) >>= _) _ _ _
  refine wpAny_bind ?_
  unfold Builtin.SmallTypes.ownedTupleIsFree
  refine wpAny_bind (wpAny_field hz rfl (x := .none) rfl (wpAny_pure ?_))
  simp only [if_true]
  refine wpAny_bind (wpAny_rule (wpAny_bind (wpAny_field hz rfl (x := .ref TO) rfl (wpAny_bind (wpAny_setField_rec hz (by simp) fun ha za sa => ?_)))))
  replace za : IsZip ha z TI TO .ellipsis := za
  have ea := sa.extBut
  -- z is open at the loop: what a raise does
  have out : ∀ (h' : Heap) (e : Addr), IsZip h' z TI TO .ellipsis → (∀ c o, c ≠ z → c ≠ TO → c ≠ i1 → c ≠ i2 → s.heap.get? c = some o → h'.get? c = some o) → (∃ o, h'.get? e = some o ∧ o.cls = .type "StopIteration") → (xs[n1]? = none ∨ ys[n2]? = none) →
      ∀ {Q' : Unit → Shared → Prop}, (∀ h'', (∃ o, h''.get? e = some o ∧ o.cls = .type "StopIteration") → (∀ c o, c ≠ z → c ≠ TO → c ≠ i1 → c ≠ i2 → s.heap.get? c = some o → h''.get? c = some o) → Q' () { s with heap := h'' }) → wpAny (model prog w) A (setField (.ref z) 0 .none) Q' E { s with heap := h' } := fun h' e zz kk he hn Q' g => by
    obtain ⟨oe, hoe, hce⟩ := he
    have ne : e ≠ z := fun q => by
      subst q
      rw [zz] at hoe
      cases hoe
      simp at hce
    exact wpAny_setField_rec zz (by simp) fun h'' _ s2 => g h'' ⟨oe, s2.extBut _ _ ne hoe, hce⟩ fun c o c1 c2 c3 c4 x => s2.extBut _ _ c1 (kk c o c1 c2 c3 c4 x)
  refine wpAny_bind ?_
  simp only [List.zipIdx_cons, List.zipIdx_nil, List.forIn_cons, List.forIn_nil]
  refine wpAny_bind (wpAny_bind (wpAny_onRaise ?_))
  show wpAny _ _ (Builtin.SmallTypes.nextOf (.ref i1) >>= _) _ _ _
  cases hx : xs[n1]? with
  | none =>
    refine wpAny_bind (nextS_end hh (h1.ext ea D.i1z) (hl1.ext ea D.l1z) hx fun hb e sb he => ?_)
    exact out hb e (sb _ _ D.i1z.symm za) (fun c o c1 c2 c3 c4 x => sb _ _ c3 (ea _ _ c1 x)) he (.inl hx) fun h'' a b => hE (.inl hx) h'' e b a
  | some x =>
    refine wpAny_bind (nextS_item (h1.ext ea D.i1z) (hl1.ext ea D.l1z) hx fun hb ib sb => wpAny_pure ?_)
    have eb := sb.extBut
    have tb : IsPair hb TO a b := eb _ _ D.TOi1 (ea _ _ D.TOz hTO)
    refine wpAny_bind (wpAny_seqItems tb rfl (wpAny_bind (wpAny_updateSeq_pair tb fun hc tc sc => ?_)))
    replace tc : IsPair hc TO x b := tc
    have ec := sc.extBut
    refine wpAny_bind (wpAny_letGo (wpAny_pure (wpAny_bind (wpAny_bind (wpAny_onRaise ?_)))))
    show wpAny _ _ (Builtin.SmallTypes.nextOf (.ref i2) >>= _) _ _ _
    have i2c := ((h2.ext ea D.i2z).ext eb D.i12.symm).ext ec D.TOi2.symm
    have l2c := ((hl2.ext ea D.l2z).ext eb D.l2i1).ext ec D.l2TO
    cases hy : ys[n2]? with
    | none =>
      refine wpAny_bind (nextS_end hh i2c l2c hy fun hd e sd he => ?_)
      exact out hd e (sd _ _ D.i2z.symm (ec _ _ D.TOz.symm (eb _ _ D.i1z.symm za))) (fun c o c1 c2 c3 c4 x => sd _ _ c4 (ec _ _ c2 (eb _ _ c3 (ea _ _ c1 x)))) he (.inr hy) fun h'' a b => hE (.inr hy) h'' e b a
    | some y =>
      refine wpAny_bind (nextS_item i2c l2c hy fun hd id sd => wpAny_pure ?_)
      have ed := sd.extBut
      have td : IsPair hd TO x b := ed _ _ D.TOi2 tc
      refine wpAny_bind (wpAny_seqItems td rfl (wpAny_bind (wpAny_updateSeq_pair td fun he te se => ?_)))
      replace te : IsPair he TO x y := te
      have ee := se.extBut
      refine wpAny_bind (wpAny_letGo (wpAny_pure (wpAny_pure (wpAny_bind (wpAny_seqItems te rfl (wpAny_bind (wpAny_newTuple ?_)))))))
      have hsz : he.objs.size = s.heap.objs.size := by rw [se.1, sd.1, sc.1, sb.1, sa.1]
      have ze : IsZip he z TI TO .ellipsis := ee _ _ D.TOz.symm (ed _ _ D.i2z.symm (ec _ _ D.TOz.symm (eb _ _ D.i1z.symm za)))
      have i1e := (((ib.ext ec D.TOi1.symm).ext ed D.i12).ext ee D.TOi1.symm)
      have i2e := id.ext ee D.TOi2.symm
      have zl : z ≠ he.objs.size := Nat.ne_of_lt (Heap.lt_size ze)
      show wpAny _ _ (Builtin.SmallTypes.ownedTupleHandOut (.ref z) (.ref he.objs.size) >>= _) _ _ _
      refine wpAny_bind ?_
      unfold Builtin.SmallTypes.ownedTupleHandOut
      have zf : IsZip (he.push { cls := .type "tuple", data := .seq #[x, y] }) z TI TO .ellipsis := Heap.get?_push_of_some _ ze
      refine wpAny_bind (wpAny_setField_rec zf (by simp) fun hg zg sg => ?_)
      replace zg : IsZip hg z TI TO (rawInt he.objs.size) := zg
      refine wpAny_setField_rec zg (by simp) fun hi zi si => ?_
      replace zi : IsZip hi z TI TO (rawInt he.objs.size) := zi
      have up : ∀ c o, c ≠ z → he.get? c = some o → hi.get? c = some o := fun c o c1 q => si.extBut _ _ c1 (sg.extBut _ _ c1 (Heap.get?_push_of_some _ q))
      have pT : IsPair hi he.objs.size x y := si.extBut _ _ zl.symm (sg.extBut _ _ zl.symm (Heap.get?_push_size _ rfl))
      refine wpAny_pure ⟨_, rfl, ?_⟩
      show Q (.ref he.objs.size) _
      rw [hsz] at zi pT ⊢
      exact hQ x y hi hx hy zi (up _ _ D.TOz te) (i1e.at fun o q => up _ o D.i1z q) (i2e.at fun o q => up _ o D.i2z q) pT fun c o c1 c2 c3 c4 q => up c o c1 (ee _ _ c2 (ed _ _ c4 (ec _ _ c2 (eb _ _ c3 (ea _ _ c1 q)))))
theorem pyNext_zipS {z TI TO i1 i2 l1 l2 : Addr} {n1 n2 : Nat} {xs ys : Array Value} {a b : Value} {Q : Option Value → Shared → Prop} (hh : A.handled = none) (D : ZipApart z TI TO i1 i2 l1 l2)
    (hz : IsZip s.heap z TI TO .none) (hTI : IsPair s.heap TI (.ref i1) (.ref i2)) (hTO : IsPair s.heap TO a b)
    (h1 : SIt k s.heap i1 l1 n1) (h2 : SIt kb s.heap i2 l2 n2) (hl1 : SSq k s.heap l1 xs) (hl2 : SSq kb s.heap l2 ys)
    (hQ : ∀ x y h', xs[n1]? = some x → ys[n2]? = some y → IsZip h' z TI TO (rawInt s.heap.objs.size) → IsPair h' TO x y → SIt k h' i1 l1 (n1 + 1) → SIt kb h' i2 l2 (n2 + 1) → IsPair h' s.heap.objs.size x y →
      (∀ c o, c ≠ z → c ≠ TO → c ≠ i1 → c ≠ i2 → s.heap.get? c = some o → h'.get? c = some o) → Q (some (.ref s.heap.objs.size)) { s with heap := h' })
    (hN : xs[n1]? = none ∨ ys[n2]? = none → ∀ h', (∀ c o, c ≠ z → c ≠ TO → c ≠ i1 → c ≠ i2 → s.heap.get? c = some o → h'.get? c = some o) → Q none { s with heap := h' }) :
    wpAny (model prog w) A (pyNext (.ref z)) Q E s := by
  have hT : s.TypeIs (.ref z) "zip" := ⟨_, hz, rfl⟩
  unfold pyNext
  refine wpAny_bind (wpAny_attempt (wpAny_callSpecial?_slot (name := Str.ofString "__next__") hT F.slot_zip_next (wpAny_call_entry F.slot_zip_next hT F.entry_zip_next
    (zipS_next hh D hz hTI hTO h1 h2 hl1 hl2 (fun x y h' a1 a2 a3 a4 a5 a6 a7 a8 => wpAny_pure (hQ x y h' a1 a2 a3 a4 a5 a6 a7 a8)) (fun hn h' e hk he => ?_)) (F.args_zip_next_1 _))))
  obtain ⟨o, ho, hc⟩ := he
  exact wpAny_bind (wpAny_isInstance (T := "StopIteration") (b := true) ⟨o, ho, hc⟩ isSubtype_stop (wpAny_pure (hN hn _ hk)))
end
/-! ### zip(a, b) is made -/
abbrev zS1 (h : Heap) (k : Bool) (l1 : Addr) : Heap := h.push (itO k l1)
abbrev zS2 (h : Heap) (k kb : Bool) (l1 l2 : Addr) : Heap := (zS1 h k l1).push (itO kb l2)
abbrev zS3 (h : Heap) (k kb : Bool) (l1 l2 : Addr) : Heap := (zS2 h k kb l1 l2).push { cls := .type "tuple", data := .seq #[.ref h.objs.size, .ref (zS1 h k l1).objs.size] }
abbrev zS4 (h : Heap) (k kb : Bool) (l1 l2 : Addr) : Heap := (zS3 h k kb l1 l2).push { cls := .type "tuple", data := .seq #[.none, .none] }
abbrev zS5 (h : Heap) (k kb : Bool) (l1 l2 : Addr) : Heap := (zS4 h k kb l1 l2).push { cls := .type "zip", data := .fields #[.none, .bool false, .bool false, .ref (zS2 h k kb l1 l2).objs.size, .ref (zS3 h k kb l1 l2).objs.size] }
theorem meets_zipS (k kb : Bool) (l1 l2 : Addr) (xs ys : Array Value) :
    Meets (Builtin.«zip.__new__» ⟨[.type "zip", .ref l1, .ref l2], []⟩) (fun _ R s => SSq k s.heap l1 xs ∧ SSq kb s.heap l2 ys ∧ R (.ok (.ret (.ref (zS4 s.heap k kb l1 l2).objs.size))) { s with heap := zS5 s.heap k kb l1 l2 }) :=
  .of_wp fun prog w A R s h => by
    obtain ⟨hp, g, d, tk, os⟩ := s
    obtain ⟨hl1, hl2, h⟩ := h
    have hsub := sub_zip
    have a1 : SSq k (Shared.heap ⟨hp, g, d, tk, os⟩) l1 xs := hl1
    have a2 : SSq kb (Shared.heap ⟨hp.push (itO k l1), g, d, tk, os⟩) l2 ys := SSq.push hl2 _
    wp_walk using pyIterS a1, pyIterS a2
    exact ⟨_, rfl, h⟩
section
variable {prog : Program} {w : World} {A : Around} {E : Value → Shared → Prop} {s : Shared} {k kb : Bool}
theorem call_zipS {l1 l2 : Addr} {xs ys : Array Value} {Q : Value → Shared → Prop} (hl1 : SSq k s.heap l1 xs) (hl2 : SSq kb s.heap l2 ys)
    (h : ∀ h', IsZip h' (s.heap.objs.size + 4) (s.heap.objs.size + 2) (s.heap.objs.size + 3) .none → IsPair h' (s.heap.objs.size + 2) (.ref s.heap.objs.size) (.ref (s.heap.objs.size + 1)) →
      IsPair h' (s.heap.objs.size + 3) .none .none → SIt k h' s.heap.objs.size l1 0 → SIt kb h' (s.heap.objs.size + 1) l2 0 → (∀ c o, s.heap.get? c = some o → h'.get? c = some o) → Q (.ref (s.heap.objs.size + 4)) { s with heap := h' }) :
    wpAny (model prog w) A (call (.type "zip") [.ref l1, .ref l2]) Q E s := by
  refine callType_new F.called_zip (by decide) (F.typeCall_zip_2 _ _) (F.newCall_zip_2 _ _) (fun obj => F.args_object_init_3 obj _ _) F.entry_zip_new (meets_zipS k kb l1 l2 xs ys) ⟨hl1, hl2, ?_⟩
  have z1 : (zS1 s.heap k l1).objs.size = s.heap.objs.size + 1 := Heap.size_push ..
  have z2 : (zS2 s.heap k kb l1 l2).objs.size = s.heap.objs.size + 2 := by rw [Heap.size_push, z1]
  have z3 : (zS3 s.heap k kb l1 l2).objs.size = s.heap.objs.size + 3 := by rw [Heap.size_push, z2]
  have z4 : (zS4 s.heap k kb l1 l2).objs.size = s.heap.objs.size + 4 := by rw [Heap.size_push, z3]
  have g5 : (zS5 s.heap k kb l1 l2).get? (zS4 s.heap k kb l1 l2).objs.size = some _ := Heap.get?_push_size _ rfl
  have g4 : (zS5 s.heap k kb l1 l2).get? (zS3 s.heap k kb l1 l2).objs.size = some _ := Heap.get?_push_of_some _ (Heap.get?_push_size _ rfl)
  have g3 : (zS5 s.heap k kb l1 l2).get? (zS2 s.heap k kb l1 l2).objs.size = some _ := Heap.get?_push_of_some _ (Heap.get?_push_of_some _ (Heap.get?_push_size _ rfl))
  have n2 : ∀ (kk : Bool) (l : Addr), (itO kk l).isFreed = false := fun kk l => by cases kk <;> rfl
  have g2 : (zS5 s.heap k kb l1 l2).get? (zS1 s.heap k l1).objs.size = some (itO kb l2) := Heap.get?_push_of_some _ (Heap.get?_push_of_some _ (Heap.get?_push_of_some _ (Heap.get?_push_size _ (n2 _ _))))
  have g1 : (zS5 s.heap k kb l1 l2).get? s.heap.objs.size = some (itO k l1) := Heap.get?_push_of_some _ (Heap.get?_push_of_some _ (Heap.get?_push_of_some _ (Heap.get?_push_of_some _ (Heap.get?_push_size _ (n2 _ _)))))
  show _ ∧ _
  rw [z2, z3, z4] at g5
  rw [z1, z2] at g3
  rw [z3] at g4
  rw [z1] at g2
  rw [z4]
  exact ⟨⟨_, g5, rfl⟩, h _ g5 g3 g4 (.of g1) (.of g2) fun c o x =>
    Heap.get?_push_of_some _ (Heap.get?_push_of_some _ (Heap.get?_push_of_some _ (Heap.get?_push_of_some _ (Heap.get?_push_of_some _ x))))⟩
end
end DL
set_option Elab.async false
set_option linter.all false
set_option maxRecDepth 100000
/-! DL21: iterators over trees; comprehensions and loops over any of them. -/
namespace DL
open PySem PySem.Spec L2
open PyProof.Rows hiding St

/-! ### zip at the hand layer -/
def SqS (k : Bool) (K : PySem.W.Frag) (H : Hp) (a : Addr) (xs : List V) : Prop := match k with
  | true => SqT K H a xs
  | false => SqL K H a xs
section
variable {X : Cx} {pins : List (Addr × Obj)} {σ : L2.St} {H : Hp} {s : Shared} {k : Bool} {a : Addr} {xs ys : List V}
theorem inv_seqS (I : Inv X pins σ H s) (h : SqS k X.K H a xs) : ∃ its : List Value, Vals xs its ∧ SSq k s.heap a its.toArray := by
  cases k with
  | true =>
    obtain ⟨its, r, p, _⟩ := I.tuple h
    exact ⟨its, r, p⟩
  | false =>
    obtain ⟨its, r, p, _⟩ := I.list h
    exact ⟨its, r, p.isList⟩
theorem inv_seqS_inj (I : Inv X pins σ H s) (h : SqS k X.K H a xs) (h' : SqS k X.K H a ys) : xs = ys := by
  cases k with
  | true => exact I.tuple_inj h h'
  | false => exact I.list_inj h h'
end
def ItzS (K : PySem.W.Frag) (k kb : Bool) (a b : Addr) : It :=
  ⟨fun i H => ∃ (xs ys : List V) (x y : V), SqS k K H a xs ∧ SqS kb K H b ys ∧ xs[i]? = some x ∧ ys[i]? = some y,
    fun i H v H' => ∃ T x y, v = .ref T ∧ H T = none ∧ H' = upd H T (.tup [x, y]) ∧ (∀ xs, SqS k K H a xs → xs[i]? = some x) ∧ ∀ ys, SqS kb K H b ys → ys[i]? = some y,
    fun i H => ∃ xs ys : List V, SqS k K H a xs ∧ SqS kb K H b ys ∧ (xs.length ≤ i ∨ ys.length ≤ i)⟩
theorem turn_zipS {P : Program} {w : World} {K : PySem.W.Frag} {elts : List Expr} {kk : Nat} {tpos : Pos} {k kb : Bool} {a b z TI TO i1 i2 : Addr} (D : ZipApart z TI TO i1 i2 a b) :
    Turn P w K (.Tuple elts kk tpos) (ItzS K k kb a b) [z, TI, TO, i1, i2] z (fun i h => IsZip h z TI TO .none ∧ IsPair h TI (.ref i1) (.ref i2) ∧ (∃ x y, IsPair h TO x y) ∧ SIt k h i1 a i ∧ SIt kb h i2 b i) where
  mem := by simp
  obj := fun i h st c hc => by
    obtain ⟨hz, hTI, ⟨x, y, hTO⟩, h1, h2⟩ := st
    simp only [List.mem_cons, List.not_mem_nil, or_false] at hc
    rcases hc with rfl | rfl | rfl | rfl | rfl
    · exact ⟨_, hz, fun v q => nomatch q⟩
    · exact ⟨_, hTI, fun v q => nomatch q⟩
    · exact ⟨_, hTO, fun v q => nomatch q⟩
    · exact h1.obj
    · exact h2.obj
  keep := fun i h h' st kp => by
    obtain ⟨hz, hTI, ⟨x, y, hTO⟩, h1, h2⟩ := st
    exact ⟨kp z (by simp) _ hz, kp TI (by simp) _ hTI, ⟨x, y, kp TO (by simp) _ hTO⟩, h1.at fun o q => kp i1 (by simp) o q, h2.at fun o q => kp i2 (by simp) o q⟩
  item := by
    intro X hP hw hK hc i pins s σ H E I hf st hg
    subst hP hw hK
    obtain ⟨hz, hTI, ⟨x0, y0, hTO⟩, h1, h2⟩ := st
    obtain ⟨xs, ys, x, y, qx, qy, hx, hy⟩ := hg
    obtain ⟨its, rv, p⟩ := inv_seqS I qx
    obtain ⟨its2, rv2, p2⟩ := inv_seqS I qy
    obtain ⟨u, hu, ru⟩ := rv.get hx
    obtain ⟨u2, hu2, ru2⟩ := rv2.get hy
    have hzl : z < s.heap.objs.size := Heap.lt_size hz
    refine pyNext_zipS (I.ok.hd hc) D hz hTI hTO h1 h2 p p2 (fun u' u2' h' e1 e2 z' TO' h1' h2' hT hk => ?_) (fun q => ?_)
    · have e1' : some u = some u' := hu.symm.trans (by simpa using e1)
      have e2' : some u2 = some u2' := hu2.symm.trans (by simpa using e2)
      cases e1'
      cases e2'
      refine ⟨_, rfl, wpAny_letOwnedTupleGo_zip (s := { s with heap := h' }) z' fun h'' z'' sb => ?_⟩
      have hT2 : h''.get? s.heap.objs.size = some { cls := .type "tuple", data := .seq #[u, u2] } := (sb.2 _ (Nat.ne_of_gt hzl)).trans hT
      have new : ObjOk X.prog X.w (upd H s.heap.objs.size (.tup [x, y])) h'' s.heap.objs.size (.tup [x, y]) := ⟨by show 2 ≤ sizeLine; decide, [u, u2], .cons ru (.cons ru2 .nil), ⟨_, hT2, rfl, _, rfl⟩⟩
      have kp : ∀ c o, c ∉ [z, TI, TO, i1, i2] → s.heap.get? c = some o → h''.get? c = some o := fun c o hb q => by
        simp only [List.mem_cons, List.not_mem_nil, or_false, not_or] at hb
        exact (sb.2 c hb.1).trans (hk c o hb.1 hb.2.2.1 hb.2.2.2.1 hb.2.2.2.2 q)
      have I1 : Inv X pins σ (upd H s.heap.objs.size (.tup [x, y])) { s with heap := h'' } := I.turnedNew (t' := s.toks) (ch := [z, TI, TO, i1, i2]) kp hf (Nat.le_refl _) new
      refine ⟨.ref s.heap.objs.size, _, I1, rfl, ⟨_, x, y, rfl, I.hok.fresh (Nat.le_refl _), rfl, fun l hl => by rw [inv_seqS_inj I hl qx]; exact hx, fun l hl => by rw [inv_seqS_inj I hl qy]; exact hy⟩, ⟨z'', (sb.2 _ D.TIz).trans (hk _ _ D.TIz D.TITO D.TIi1 D.TIi2 hTI), ⟨u, u2, (sb.2 _ D.TOz).trans TO'⟩, h1'.at fun o q => (sb.2 _ D.i1z).trans q, h2'.at fun o q => (sb.2 _ D.i2z).trans q⟩, fun c hcm => ?_⟩
      have hlt : c < s.heap.objs.size := by
        simp only [List.mem_cons, List.not_mem_nil, or_false] at hcm
        rcases hcm with rfl | rfl | rfl | rfl | rfl
        · exact hzl
        · exact Heap.lt_size hTI
        · exact Heap.lt_size hTO
        · obtain ⟨_, e1, _⟩ := h1.obj
          exact Heap.lt_size e1
        · obtain ⟨_, e2, _⟩ := h2.obj
          exact Heap.lt_size e2
      rw [upd_ne (Nat.ne_of_lt hlt)]
      exact (hf c hcm).1
    · exfalso
      rcases q with q | q
      · rw [show its.toArray[i]? = some u by simpa using hu] at q
        cases q
      · rw [show its2.toArray[i]? = some u2 by simpa using hu2] at q
        cases q
  done := by
    intro X hP hw hK hc i pins s σ H E I hf st hg
    subst hP hw hK
    obtain ⟨hz, hTI, ⟨x0, y0, hTO⟩, h1, h2⟩ := st
    obtain ⟨xs, ys, qx, qy, hend⟩ := hg
    obtain ⟨its, rv, p⟩ := inv_seqS I qx
    obtain ⟨its2, rv2, p2⟩ := inv_seqS I qy
    have l1 := rv.length
    have l2 := rv2.length
    refine pyNext_zipS (I.ok.hd hc) D hz hTI hTO h1 h2 p p2 (fun u' u2' h' e1 e2 z' TO' h1' h2' hT hk => ?_) (fun q h' hk => ?_)
    · exfalso
      have e1' := (Array.getElem?_eq_some_iff.mp e1).1
      have e2' := (Array.getElem?_eq_some_iff.mp e2).1
      simp only [List.size_toArray] at e1' e2'
      omega
    · exact ⟨rfl, I.turnedL (t' := s.toks) (ch := [z, TI, TO, i1, i2]) (fun c o hb q => by
        simp only [List.mem_cons, List.not_mem_nil, or_false, not_or] at hb
        exact hk c o hb.1 hb.2.2.1 hb.2.2.2.1 hb.2.2.2.2 q) hf⟩
  self := fun A i s Q E st h => wpAny_pyIter_zip st.1 h
def iZipS (K : PySem.W.Frag) (ta : TA) : TI := fun σ H R => ta σ H fun vs H1 => ∃ (k kb : Bool) (a b : Addr) (xs ys : List V), vs = [.ref a, .ref b] ∧ SqS k K H1 a xs ∧ SqS kb K H1 b ys ∧ R (ItzS K k kb a b) H1
theorem pi_zipS {X : Cx} {e e2 : Expr} {ta : TA} {p pos tpos : Pos} {elts : List Expr} {kk : Nat} (hg : Gl X "zip") (hm : X.mg "zip" = none) (ha : PA X [e, e2] ta)
    (hs : starEach [e, e2] X.env = (false, eval e X.env) :: starEach [e2] X.env := by rfl) (hpl : (backTo pos (starEach [e2] X.env)).any (·.1) = false := by rfl) :
    PI X (.Tuple elts kk tpos) (.Call (.Name "zip" p) [e, e2] [] pos) (iZipS X.K ta) := by
  refine ⟨fun pins s σ H R I h => ?_⟩
  refine Call_ (ld_blt I hg hm PyProof.Rows.boot_zip (PyProof.Rows.callWith_type1 (thn (ha.run pos pins s σ H _ I h) fun us s1 ⟨vs, H1, I1, r1, q1⟩ => ?_) hs hpl))
  obtain ⟨k, kb, a, b, xs, ys, ex, qx, qy, q⟩ := q1
  subst ex
  cases r1 with
  | cons r rr =>
    cases rr with
    | cons r' rr =>
      cases rr
      cases r
      cases r'
      obtain ⟨its, rv, p1⟩ := inv_seqS I1 qx
      obtain ⟨its2, rv2, p2⟩ := inv_seqS I1 qy
      have fresh5 : ∀ c, c ∈ [s1.heap.objs.size + 4, s1.heap.objs.size + 2, s1.heap.objs.size + 3, s1.heap.objs.size, s1.heap.objs.size + 1] → FpOk X pins H1 c := fun c hcm => by
        have hle : s1.heap.objs.size ≤ c := by
          simp only [List.mem_cons, List.not_mem_nil, or_false] at hcm
          rcases hcm with z | z | z | z | z <;> (subst z; show s1.heap.objs.size ≤ _; first | exact Nat.le_refl _ | exact Nat.le_add_right _ _)
        exact I1.fpOk hle (I1.hok.fresh hle)
      refine call_zipS p1 p2 fun h' hz hTI hTO h1 h2 hk => wpAny_pyIter_zip hz ?_
      exact ⟨s1.heap.objs.size + 4, [s1.heap.objs.size + 4, s1.heap.objs.size + 2, s1.heap.objs.size + 3, s1.heap.objs.size, s1.heap.objs.size + 1], _, _, H1, rfl, I1.kept (t' := s1.toks) hk, turn_zipS (PySem.W.ktu_apart s1.heap.objs.size a b p1.lt p2.lt), ⟨hz, hTI, ⟨_, _, hTO⟩, h1, h2⟩, fresh5, q⟩

/-! ### iterators over trees -/
/-- what lies at ps lies there as it did -/
def Sub (ps : List Addr) (m m' : Mu) : Prop := ∀ p ∈ ps, ∀ o, At m p o → At m' p o
theorem Sub.nil {m m' : Mu} : Sub [] m m' := fun _ h => nomatch h
theorem Sub.refl {ps : List Addr} {m : Mu} : Sub ps m m := fun _ _ _ h => h
theorem Sub.trans {ps : List Addr} {m m1 m2 : Mu} (a : Sub ps m m1) (b : Sub ps m1 m2) : Sub ps m m2 := fun p hp o h => b p hp o (a p hp o h)
theorem Sub.cons {ps : List Addr} {m : Mu} {q : Addr × MO} : Sub ps m (q :: m) := fun _ _ _ h => .tail h
/-- it yields xs, one after the other, at any later heap -/
structure IsIt (J : It) (ps : List Addr) (m : Mu) (H : Hp) (xs : List D) : Prop where
  go : ∀ i m' H', Stp (dom m) H (dom m') H' → MutR m' H' → Sub ps m m' → i < xs.length → J.go i H'
  yld : ∀ i m' H', Stp (dom m) H (dom m') H' → MutR m' H' → Sub ps m m' → ∀ v H2, J.yld i H' v H2 → i < xs.length → ∃ d, xs[i]? = some d ∧ Stp (dom m') H' (dom m') H2 ∧ MutR m' H2 ∧ Rep (dom m') H2 d v
  stop : ∀ m' H', Stp (dom m) H (dom m') H' → MutR m' H' → Sub ps m m' → J.stop xs.length H'
/-- a sequence: its items, and where it lies if it is mutable -/
inductive SeqM : D → Mu → List Addr → List D → Prop
  | lst {m : Mu} {xs : List D} : SeqM (.lst xs) m [] xs
  | tup {m : Mu} {xs : List D} : SeqM (.tup xs) m [] xs
  | mutb {m : Mu} {p : Addr} {xs : List D} (h : At m p (.lst xs)) : SeqM (.ref p) m [p] xs
theorem SeqM.at {K : PySem.W.Frag} {d : D} {m : Mu} {ps : List Addr} {xs : List D} {H : Hp} {v : V} (sm : SeqM d m ps xs) (rp : Rep (dom m) H d v) (mu : MutR m H) :
    ∃ (k : Bool) (a : Addr), v = .ref a ∧ ∀ m' H', Stp (dom m) H (dom m') H' → MutR m' H' → Sub ps m m' → ∃ vs, SqS k K H' a vs ∧ Reps (dom m') H' xs vs := by
  cases sm with
  | lst =>
    cases rp with
    | @lst a _ vs mm hh rs => exact ⟨false, a, rfl, fun m' H' st mu' _ => ⟨vs, rd_l (st.rd mm hh).1, rs.mono st⟩⟩
  | tup =>
    cases rp with
    | @tup a _ vs mm hh rs => exact ⟨true, a, rfl, fun m' H' st mu' _ => ⟨vs, rd_t (st _ _ hh mm).1, rs.mono st⟩⟩
  | @mutb _ p _ h =>
    cases rp
    refine ⟨false, p, rfl, fun m' H' st mu' sb => ?_⟩
    have q := (sb p (List.mem_cons_self ..) _ h).rep mu'
    cases q with
    | lst hh rs => exact ⟨_, SqL.of hh, rs⟩
theorem Reps.lt {M : Addr → Prop} {H : Hp} {xs : List D} {vs : List V} (r : Reps M H xs vs) {i : Nat} (h : i < xs.length) : ∃ v, vs[i]? = some v := ⟨vs[i]'(by rw [← r.length]; exact h), by simp⟩
def Wi (W : WX) (E : ET) (wi : TI) (r : Rho) (m : Mu) (KI : List D → List Addr → Mu → Prop) : Prop := ∀ s H R, EnvR r m s H → Rz W E m H →
  (∀ J xs ps m' H', Stp (dom m) H (dom m') H' → MutR m' H' → IsIt J ps m' H' xs → KI xs ps m' → R J H') → wi s H R
section
variable {W : WX} {E : ET} {r : Rho} {m : Mu} {KI : List D → List Addr → Mu → Prop} {G : Gx} {te : TE} {ta : TA}
theorem wi_seq (h : We W E te r m fun d m1 => ∃ ps xs, SeqM d m1 ps xs ∧ KI xs ps m1) : Wi W E (iSeq G.K te) r m KI := fun s H R e z g =>
  h s H _ e z fun d m1 v H1 s1 mu1 r1 ⟨ps, xs, sm, k⟩ => by
    obtain ⟨kk, a, rfl, q⟩ := sm.at (K := G.K) r1 mu1
    cases kk with
    | false =>
      refine .inl ⟨a, rfl, (q m1 H1 (Stp.refl _ _) mu1 Sub.refl).imp fun _ x => x.1, g _ xs ps m1 H1 s1 mu1 ⟨fun i m' H' st mu' sb hi => ?_, fun i m' H' st mu' sb v H2 y hi => ?_, fun m' H' st mu' sb => ?_⟩ k⟩
      · obtain ⟨vs, sq, rs⟩ := q m' H' st mu' sb
        obtain ⟨v, hv⟩ := rs.lt hi
        exact ⟨vs, v, sq, hv⟩
      · obtain ⟨vs, sq, rs⟩ := q m' H' st mu' sb
        obtain ⟨rfl, y⟩ := y
        obtain ⟨d, h1, h2⟩ := rs.getV (y vs sq)
        exact ⟨d, h1, Stp.refl _ _, mu', h2⟩
      · obtain ⟨vs, sq, rs⟩ := q m' H' st mu' sb
        exact ⟨vs, sq, by rw [rs.length]; exact Nat.le_refl _⟩
    | true =>
      refine .inr ⟨a, rfl, (q m1 H1 (Stp.refl _ _) mu1 Sub.refl).imp fun _ x => x.1, g _ xs ps m1 H1 s1 mu1 ⟨fun i m' H' st mu' sb hi => ?_, fun i m' H' st mu' sb v H2 y hi => ?_, fun m' H' st mu' sb => ?_⟩ k⟩
      · obtain ⟨vs, sq, rs⟩ := q m' H' st mu' sb
        obtain ⟨v, hv⟩ := rs.lt hi
        exact ⟨vs, v, sq, hv⟩
      · obtain ⟨vs, sq, rs⟩ := q m' H' st mu' sb
        obtain ⟨rfl, y⟩ := y
        obtain ⟨d, h1, h2⟩ := rs.getV (y vs sq)
        exact ⟨d, h1, Stp.refl _ _, mu', h2⟩
      · obtain ⟨vs, sq, rs⟩ := q m' H' st mu' sb
        exact ⟨vs, sq, by rw [rs.length]; exact Nat.le_refl _⟩
/-- lo, lo + 1, .., n of them -/
def ran (lo : Int) (n : Nat) : List D := (List.range n).map fun (i : Nat) => D.int (lo + (i : Int))
theorem ran_len {lo : Int} {n : Nat} : (ran lo n).length = n := by simp [ran]
theorem ran_get {lo : Int} {n i : Nat} (h : i < n) : (ran lo n)[i]? = some (.int (lo + (i : Int))) := by simp [ran, h]
theorem isIt_ran {lo : Int} {n : Nat} {H : Hp} : IsIt (Itr lo n) [] m H (ran lo n) :=
  ⟨fun i m' H' _ _ _ hi => by rw [ran_len] at hi; exact hi, fun i m' H' _ mu' _ v H2 y hi => by
    rw [ran_len] at hi
    obtain ⟨rfl, rfl⟩ := y
    exact ⟨_, ran_get hi, Stp.refl _ _, mu', .int _⟩, fun m' H' _ _ _ => by rw [ran_len]; exact Nat.le_refl _⟩
theorem wi_rng1 (h : Wa W E ta r m fun ds m1 => ∃ j : Int, ds = [.int j] ∧ (-(2 ^ 62) ≤ j ∧ j < 2 ^ 62) ∧ KI (ran 0 j.toNat) [] m1) : Wi W E (iRng1 ta) r m KI := fun s H R e z g =>
  h s H _ e z fun ds m1 vs H1 s1 mu1 r1 ⟨j, hd, ⟨b1, b2⟩, k⟩ => by
    subst hd
    cases r1 with
    | cons ra t =>
      cases t
      cases ra
      exact ⟨j, rfl, b1, b2, g _ _ [] m1 H1 s1 mu1 isIt_ran k⟩
theorem wi_rng2 (h : Wa W E ta r m fun ds m1 => ∃ l j : Int, ds = [.int l, .int j] ∧ (-(2 ^ 62) ≤ l ∧ l < 2 ^ 62 ∧ -(2 ^ 62) ≤ j ∧ j < 2 ^ 62) ∧ KI (ran l (j - l).toNat) [] m1) : Wi W E (iRng2 ta) r m KI := fun s H R e z g =>
  h s H _ e z fun ds m1 vs H1 s1 mu1 r1 ⟨l, j, hd, b, k⟩ => by
    subst hd
    cases r1 with
    | cons ra t =>
      cases t with
      | cons rb t =>
        cases t
        cases ra
        cases rb
        exact ⟨l, j, rfl, b, g _ _ [] m1 H1 s1 mu1 isIt_ran k⟩
def zipD (xs ys : List D) : List D := List.zipWith (fun x y => D.tup [x, y]) xs ys
theorem wi_zip (h : Wa W E ta r m fun ds m1 => ∃ x y ps qs xs ys, ds = [x, y] ∧ SeqM x m1 ps xs ∧ SeqM y m1 qs ys ∧ KI (zipD xs ys) (ps ++ qs) m1) : Wi W E (iZipS G.K ta) r m KI := fun s H R e z g =>
  h s H _ e z fun ds m1 vs H1 s1 mu1 r1 ⟨x, y, ps, qs, xs, ys, hd, sx, sy, k⟩ => by
    subst hd
    cases r1 with
    | cons ra t =>
      cases t with
      | cons rb t =>
        cases t
        obtain ⟨ka, a, rfl, qa⟩ := sx.at (K := G.K) ra mu1
        obtain ⟨kb, b, rfl, qb⟩ := sy.at (K := G.K) rb mu1
        have sl : ∀ {m' : Mu}, Sub (ps ++ qs) m1 m' → Sub ps m1 m' := fun h p hp => h p (List.mem_append_left _ hp)
        have sr : ∀ {m' : Mu}, Sub (ps ++ qs) m1 m' → Sub qs m1 m' := fun h p hp => h p (List.mem_append_right _ hp)
        obtain ⟨va, sa, _⟩ := qa m1 H1 (Stp.refl _ _) mu1 Sub.refl
        obtain ⟨vb, sb, _⟩ := qb m1 H1 (Stp.refl _ _) mu1 Sub.refl
        refine ⟨ka, kb, a, b, va, vb, rfl, sa, sb, g _ (zipD xs ys) (ps ++ qs) m1 H1 s1 mu1 ⟨fun i m' H' st mu' su hi => ?_, fun i m' H' st mu' su v H2 yl hi => ?_, fun m' H' st mu' su => ?_⟩ k⟩
        · obtain ⟨vs, sq, rs⟩ := qa m' H' st mu' (sl su)
          obtain ⟨ws, sq2, rs2⟩ := qb m' H' st mu' (sr su)
          have hl : i < xs.length ∧ i < ys.length := by simpa [zipD, Nat.lt_min] using hi
          obtain ⟨v, hv⟩ := rs.lt hl.1
          obtain ⟨w, hw⟩ := rs2.lt hl.2
          exact ⟨vs, ws, v, w, sq, sq2, hv, hw⟩
        · obtain ⟨vs, sq, rs⟩ := qa m' H' st mu' (sl su)
          obtain ⟨ws, sq2, rs2⟩ := qb m' H' st mu' (sr su)
          obtain ⟨T, x, y, rfl, hT, rfl, hx, hy⟩ := yl
          obtain ⟨dx, h1, h2⟩ := rs.getV (hx vs sq)
          obtain ⟨dy, h3, h4⟩ := rs2.getV (hy ws sq2)
          have st2 : Stp (dom m') H' (dom m') (upd H' T (.tup [x, y])) := Stp.new hT
          refine ⟨.tup [dx, dy], by simp [zipD, List.getElem?_zipWith, h1, h3], st2, mu'.new hT, .tup (fun zz => by obtain ⟨u, hu⟩ := mu'.there zz; rw [hT] at hu; cases hu) upd_same (.cons (h2.mono st2) (.cons (h4.mono st2) .nil))⟩
        · obtain ⟨vs, sq, rs⟩ := qa m' H' st mu' (sl su)
          obtain ⟨ws, sq2, rs2⟩ := qb m' H' st mu' (sr su)
          refine ⟨vs, ws, sq, sq2, ?_⟩
          have : (zipD xs ys).length = min xs.length ys.length := by simp [zipD]
          rw [this, ← rs.length, ← rs2.length]
          omega
end

/-! ### what a comprehension's targets leave -/
theorem wipe_get {s : L2.St} {i : Nat} : ∀ {vs : List Nat}, (wipe s vs)[i]? = if i ∈ vs then (s[i]?).map fun _ => none else s[i]?
  | [] => by simp [wipe]
  | v :: vs => by
    show ((wipe s vs).set v none)[i]? = _
    rw [List.getElem?_set, wipe_length, wipe_get (vs := vs)]
    by_cases h : v = i
    · subst h
      by_cases hl : v < s.length <;> simp [hl]
    · have : ¬ i = v := fun e => h e.symm
      by_cases hm : i ∈ vs <;> simp [h, this, hm]
theorem wipe_wipe {s : L2.St} {vs : List Nat} : wipe (wipe s vs) vs = wipe s vs := List.ext_getElem? fun i => by
  rw [wipe_get, wipe_get]
  split <;> cases s[i]? <;> rfl
theorem wipe_set {s : L2.St} {vs : List Nat} {i : Nat} {x : Option V} (h : i ∈ vs) : wipe (s.set i x) vs = wipe s vs := List.ext_getElem? fun j => by
  rw [wipe_get, wipe_get]
  by_cases hj : j ∈ vs
  · rw [if_pos hj, if_pos hj, List.getElem?_set]
    by_cases e : i = j
    · subst e
      by_cases hl : i < s.length <;> simp [hl]
    · simp [e]
  · rw [if_neg hj, if_neg hj, List.getElem?_set_ne (fun e => hj (by subst e; exact h))]
structure GK (g : TG) (vs : List Nat) : Prop where
  keep : ∀ v σ H (Q Q' : L2.St → Hp → Prop), g v σ H Q → (∀ σ' H', wipe σ' vs = wipe σ vs → Q σ' H' → Q' σ' H') → g v σ H Q'
structure GKs (g : TGs) (vs : List Nat) : Prop where
  keep : ∀ v σ H (Q Q' : L2.St → Hp → Prop), g v σ H Q → (∀ σ' H', wipe σ' vs = wipe σ vs → Q σ' H' → Q' σ' H') → g v σ H Q'
theorem gk_name {i : Nat} {vs : List Nat} (h : vs.contains i = true) : GK (gName i) vs := ⟨fun v σ H Q Q' q k => k _ _ (wipe_set (by simpa using h)) q⟩
theorem gks_nil {vs : List Nat} : GKs gNil vs := ⟨fun v σ H Q Q' q k => ⟨q.1, k _ _ rfl q.2⟩⟩
theorem gks_cons {g : TG} {gs : TGs} {vs : List Nat} (h : GK g vs) (h' : GKs gs vs) : GKs (gCons g gs) vs := ⟨fun v σ H Q Q' q k => by
  obtain ⟨x, r, e, q⟩ := q
  exact ⟨x, r, e, h.keep _ _ _ _ _ q fun σ1 H1 e1 q1 => h'.keep _ _ _ _ _ q1 fun σ2 H2 e2 q2 => k _ _ (e2.trans e1) q2⟩⟩
theorem gk_tup {K : PySem.W.Frag} {n : Nat} {gs : TGs} {vs : List Nat} (h : GKs gs vs) : GK (gTup K n gs) vs := ⟨fun v σ H Q Q' q k => by
  obtain ⟨a, xs, e, sq, hl, q⟩ := q
  exact ⟨a, xs, e, sq, hl, h.keep _ _ _ _ _ q k⟩⟩
def wipeR (r : Rho) : List Nat → Rho
  | [] => r
  | v :: vs => (wipeR r vs).set v none
theorem ROs.wipe {M : Addr → Prop} {H : Hp} {r : Rho} {s : L2.St} (h : ROs M H r s) : ∀ vs, ROs M H (wipeR r vs) (L2.wipe s vs)
  | [] => h
  | v :: vs => (ROs.wipe h vs).set (.none _) v

/-! ### comprehensions -/
theorem rz_no {m : Mu} {H : Hp} : Rz wNo eNo m H := fun _ _ _ _ _ _ _ _ _ _ q => q.elim
section
variable {W : WX} {E : ET} {r : Rho} {m : Mu} {K : KT} {G : Gx} {te : TE} {tt : TT} {wi : TI} {g : TG} {vs : List Nat}
/-- by an invariant; the list that is made stays mutable -/
theorem we_lcI (gk : GK g vs) (h : Wi W E wi r m fun xs ps m1 => ∀ Dd, ¬ dom m1 Dd → ∃ I : Nat → Mu → Prop, I 0 ((Dd, .lst []) :: m1) ∧ (∀ i m', I i m' → Sub ps m1 m') ∧
      (∀ i x m', xs[i]? = some x → I i m' → Wg wNo eNo g x (wipeR r vs) m' fun r2 m2 => Wt wNo eNo tt r2 m2 fun b m3 =>
        (b = true → We wNo eNo te r2 m3 fun y m4 => ∃ acc m5, At m4 Dd (.lst acc) ∧ acc.length < 1000000 ∧ Put m4 Dd (.lst (acc ++ [y])) m5 ∧ I (i + 1) m5) ∧ (b = false → I (i + 1) m3)) ∧
      (∀ m', I xs.length m' → K (.ref Dd) m')) : We W E (tLc wi g tt te vs) r m K := fun s H Q e z gg =>
  h s H _ e z fun J xs ps m1 H1 s1 mu1 it q => fun Dd hD => by
    have nD : ¬ dom m1 Dd := fun zz => by
      obtain ⟨u, hu⟩ := mu1.there zz
      rw [hD] at hu
      cases hu
    obtain ⟨I, i0, isub, istep, iend⟩ := q Dd nD
    have st0 : Stp (dom m1) H1 (dom ((Dd, MO.lst []) :: m1)) (upd H1 Dd (.lst [])) := Stp.newM hD
    refine ⟨fun i n H' => n = xs.length - i ∧ i ≤ xs.length ∧ ∃ m', Stp (dom m1) H1 (dom m') H' ∧ MutR m' H' ∧ I i m', ⟨xs.length, rfl, Nat.zero_le _, _, st0, mu1.newM hD (.lst upd_same .nil), i0⟩, ?_⟩
    rintro i n H' ⟨rfl, hi, m', st, mu', hI⟩
    have sb := isub i m' hI
    by_cases hlt : i < xs.length
    · refine .inr ⟨it.go i m' H' st mu' sb hlt, fun H'' => ∃ m', Stp (dom m1) H1 (dom m') H'' ∧ MutR m' H'' ∧ I (i + 1) m', fun H'' q => ⟨_, by omega, rfl, hlt, q⟩, fun v H2 y => ?_⟩
      obtain ⟨d, hd, st2, mu2, rp⟩ := it.yld i m' H' st mu' sb v H2 y hlt
      have sta := s1.trans (st.trans st2)
      have e2 : EnvR (wipeR r vs) m' (wipe s vs) H2 := ⟨(e.env.mono sta).wipe vs, mu2⟩
      refine gk.keep _ _ _ _ _ (istep i d m' hd hI (wipe s vs) H2 v (fun σ2 H3 => ∃ r2 m2, Stp (dom m') H2 (dom m2) H3 ∧ EnvR r2 m2 σ2 H3 ∧ _) e2 rz_no rp fun r2 m2 s2 H3 a b c => ⟨r2, m2, a, b, c⟩) fun σ2 H3 hw ⟨r2, m2, st3, e3, q⟩ => ⟨hw.trans wipe_wipe, ?_⟩
      refine q σ2 H3 _ e3 rz_no fun b m3 H4 st4 mu4 q4 => ?_
      have stb := (st.trans st2).trans (st3.trans st4)
      cases b with
      | false =>
        rw [if_neg Bool.false_ne_true]
        exact ⟨m3, stb, mu4, q4.2 rfl⟩
      | true =>
        rw [if_pos rfl]
        refine q4.1 rfl σ2 H4 _ (e3.step st4 mu4) rz_no fun y m4 vy H5 st5 mu5 r5 q5 => ?_
        obtain ⟨acc, m5, ha, hl, hp, hI2⟩ := q5
        have at1 := ha.rep mu5
        cases at1 with
        | @lst _ ws hh rr =>
          have stp : ∀ o, Stp (dom m4) H5 (dom m5) (upd H5 Dd o) := fun o => hp.stp
          refine ⟨ws, hh, Nat.lt_of_lt_of_le (by rw [← rr.length]; exact hl) (by decide : 1000000 ≤ sizeLine), m5, stb.trans (st5.trans (stp _)), hp.mut mu5 (.lst upd_same (Reps.append (rr.mono (stp _)) (.cons (r5.mono (stp _)) .nil))), hI2⟩
    · have ei : i = xs.length := by omega
      subst ei
      exact .inl ⟨it.stop m' H' st mu' sb, gg _ m' _ H' (s1.trans st) mu' (.ref Dd) (iend m' hI)⟩
/-- a list just made, not written any more -/
theorem we_frz (h : We W E te r m fun d m' => ∃ p xs m1, d = .ref p ∧ m' = (p, .lst xs) :: m1 ∧ K (.lst xs) m1) : We W E te r m K := fun s H Q e z g =>
  h s H _ e z fun d m' v H1 s1 mu1 r1 ⟨p, xs, m1, hd, hm, k⟩ => by
    subst hd hm
    cases r1
    have ls : Stp (dom ((p, MO.lst xs) :: m1)) H1 (dom m1) H1 := Stp.less fun a z => dom_cons.mpr (.inr z)
    have q := (At.head (m := m1) (p := p) (o := .lst xs)).rep mu1
    cases q with
    | lst hh rr => exact g _ m1 _ H1 (s1.trans ls) mu1.drop (.lst mu1.notin (.inl hh) (rr.mono ls)) k
/-- the elements by a function of what the items stand for; those that pass are taken -/
theorem we_lcG {α : Type} (l : List α → Prop) (inj : α → D) (p : α → Bool) (f : α → D) (gk : GK g vs) (h : Wi W E wi r m fun xs ps m1 => ∃ zs : List α, xs = zs.map inj ∧ l zs ∧ Nat.ble zs.length 100000 = true ∧
      (∀ a ∈ zs, ∀ (q : Addr × MO), Wg wNo eNo g (inj a) (wipeR r vs) (q :: m1) fun r2 m2 => Wt wNo eNo tt r2 m2 fun b m3 => b = p a ∧
        (b = true → We wNo eNo te r2 m3 fun y m4 => y = f a ∧ m4 = q :: m1) ∧ (b = false → m3 = q :: m1)) ∧
      ∀ Dd, ¬ dom m1 Dd → K (.ref Dd) ((Dd, .lst ((zs.filter p).map f)) :: m1)) : We W E (tLc wi g tt te vs) r m K :=
  we_lcI gk fun s H R e z gg => h s H R e z fun J xs ps m1 H1 s1 mu1 it ⟨zs, hx, _, hlen, hel, hK⟩ => gg J xs ps m1 H1 s1 mu1 it fun Dd hD => by
    subst hx
    have hlen' := Nat.le_of_ble_eq_true hlen
    have hle : ∀ i, (((zs.take i).filter p).map f).length ≤ 100000 := fun i => by
      rw [List.length_map]
      exact Nat.le_trans (List.length_filter_le ..) (by rw [List.length_take]; omega)
    refine ⟨fun i m' => m' = (Dd, .lst (((zs.take i).filter p).map f)) :: m1, rfl, fun i m' e => by subst e; exact Sub.cons, fun i x m' hx e => ?_, fun m' e => ?_⟩
    · subst e
      rw [List.getElem?_map] at hx
      cases ha : zs[i]? with
      | none => rw [ha] at hx; cases hx
      | some a =>
        rw [ha] at hx
        cases hx
        have ex : zs.take (i + 1) = zs.take i ++ [a] := by
          rw [List.take_add_one, ha]
          rfl
        intro s2 H2 v Q e2 z2 rp2 g2
        refine hel a (List.mem_of_getElem? ha) _ s2 H2 v Q e2 z2 rp2 fun r3 m3 s3 H3 a3 b3 c3 => g2 r3 m3 s3 H3 a3 b3 ?_
        intro s4 H4 Q4 e4 z4 g4
        refine c3 s4 H4 Q4 e4 z4 fun b m5 H5 a5 b5 ⟨hb, ht, hf⟩ => g4 b m5 H5 a5 b5 ⟨fun hbt => ?_, fun hbf => ?_⟩
        · refine (ht hbt).imp fun y m6 ⟨e5, e6⟩ => ?_
          subst e5 e6
          have hp : p a = true := by rw [← hb]; exact hbt
          have e7 : ((zs.take (i + 1)).filter p).map f = ((zs.take i).filter p).map f ++ [f a] := by
            rw [ex, List.filter_append, List.map_append]
            simp [hp]
          refine ⟨_, _, .head, Nat.lt_of_le_of_lt (hle i) (by decide), .head, ?_⟩
          show _ = (Dd, MO.lst (((zs.take (i + 1)).filter p).map f)) :: m1
          rw [e7]
        · have hp : p a = false := by rw [← hb]; exact hbf
          have e7 : ((zs.take (i + 1)).filter p).map f = ((zs.take i).filter p).map f := by
            rw [ex, List.filter_append, List.map_append]
            simp [hp]
          show m5 = (Dd, MO.lst (((zs.take (i + 1)).filter p).map f)) :: m1
          rw [e7]
          exact hf hbf
    · subst e
      rw [List.length_map, List.take_length]
      exact hK Dd hD
theorem filter_tt {α : Type} {l : List α} : l.filter (fun _ => true) = l := List.filter_eq_self.mpr fun _ _ => rfl
theorem wt_yes {KB : Bool → Mu → Prop} (h : KB true m) : Wt W E tYes r m KB := fun s H Q e z g => g true m H (Stp.refl _ _) e.mu h
/-- an element's end; what a comprehension wants -/
structure LcL {α : Type} (f : α → D) (a : α) (y : D) (m0 m : Mu) : Prop where
  e : y = f a
  s : m = m0
structure LcS (len : Bool) (el k : Prop) : Prop where
  len : len = true
  el : el
  k : k
/-- without tests, the list fixed -/
theorem we_lcs {α : Type} (inj : α → D) (f : α → D) (gk : GK g vs) (h : Wi W E wi r m fun xs ps m1 => ∃ zs : List α, xs = zs.map inj ∧ LcS (Nat.ble zs.length 100000)
      (∀ a ∈ zs, ∀ (q : Addr × MO), Wg wNo eNo g (inj a) (wipeR r vs) (q :: m1) fun r2 m2 => We wNo eNo te r2 m2 fun y m4 => LcL f a y (q :: m1) m4) (K (.lst (zs.map f)) m1)) : We W E (tLc wi g tYes te vs) r m K :=
  we_frz (we_lcG (fun _ => True) inj (fun _ => true) f gk fun s H R e z gg => h s H R e z fun J xs ps m1 H1 s1 mu1 it ⟨zs, hx, ⟨hlen, hel, hK⟩⟩ => gg J xs ps m1 H1 s1 mu1 it
    ⟨zs, hx, trivial, hlen, fun a ha q s2 H2 v Q e2 z2 rp2 g2 => hel a ha q s2 H2 v Q e2 z2 rp2 fun r3 m3 s3 H3 a3 b3 c3 => g2 r3 m3 s3 H3 a3 b3 (wt_yes ⟨rfl, fun _ => c3.imp fun _ _ l => ⟨l.e, l.s⟩, fun q => nomatch q⟩),
      fun Dd hD => ⟨Dd, _, m1, rfl, rfl, by rw [filter_tt]; exact hK⟩⟩)
/-- with a test, the list fixed -/
theorem we_lcp {α : Type} (inj : α → D) (p : α → Bool) (f : α → D) (gk : GK g vs) (h : Wi W E wi r m fun xs ps m1 => ∃ zs : List α, xs = zs.map inj ∧ LcS (Nat.ble zs.length 100000)
      (∀ a ∈ zs, ∀ (q : Addr × MO), Wg wNo eNo g (inj a) (wipeR r vs) (q :: m1) fun r2 m2 => Wt wNo eNo tt r2 m2 fun b m3 => b = p a ∧
        (b = true → We wNo eNo te r2 m3 fun y m4 => LcL f a y (q :: m1) m4) ∧ (b = false → m3 = q :: m1)) (K (.lst ((zs.filter p).map f)) m1)) : We W E (tLc wi g tt te vs) r m K :=
  we_frz (we_lcG (fun _ => True) inj p f gk fun s H R e z gg => h s H R e z fun J xs ps m1 H1 s1 mu1 it ⟨zs, hx, ⟨hlen, hel, hK⟩⟩ => gg J xs ps m1 H1 s1 mu1 it
    ⟨zs, hx, trivial, hlen, fun a ha q s2 H2 v Q e2 z2 rp2 g2 => hel a ha q s2 H2 v Q e2 z2 rp2 fun r3 m3 s3 H3 a3 b3 c3 => g2 r3 m3 s3 H3 a3 b3
      fun s4 H4 Q4 e4 z4 g4 => c3 s4 H4 Q4 e4 z4 fun b m5 H5 a5 b5 ⟨hb, ht, hf⟩ => g4 b m5 H5 a5 b5 ⟨hb, fun hbt => (ht hbt).imp fun _ _ l => ⟨l.e, l.s⟩, hf⟩, fun Dd hD => ⟨Dd, _, m1, rfl, rfl, hK⟩⟩)
/-- without tests, the list mutable -/
theorem we_lcM {α : Type} (inj : α → D) (f : α → D) (gk : GK g vs) (h : Wi W E wi r m fun xs ps m1 => ∃ zs : List α, xs = zs.map inj ∧ LcS (Nat.ble zs.length 100000)
      (∀ a ∈ zs, ∀ (q : Addr × MO), Wg wNo eNo g (inj a) (wipeR r vs) (q :: m1) fun r2 m2 => We wNo eNo te r2 m2 fun y m4 => LcL f a y (q :: m1) m4) (∀ Dd, ¬ dom m1 Dd → K (.ref Dd) ((Dd, .lst (zs.map f)) :: m1))) : We W E (tLc wi g tYes te vs) r m K :=
  we_lcG (fun _ => True) inj (fun _ => true) f gk fun s H R e z gg => h s H R e z fun J xs ps m1 H1 s1 mu1 it ⟨zs, hx, ⟨hlen, hel, hK⟩⟩ => gg J xs ps m1 H1 s1 mu1 it
    ⟨zs, hx, trivial, hlen, fun a ha q s2 H2 v Q e2 z2 rp2 g2 => hel a ha q s2 H2 v Q e2 z2 rp2 fun r3 m3 s3 H3 a3 b3 c3 => g2 r3 m3 s3 H3 a3 b3 (wt_yes ⟨rfl, fun _ => c3.imp fun _ _ l => ⟨l.e, l.s⟩, fun q => nomatch q⟩),
      fun Dd hD => by rw [filter_tt]; exact hK Dd hD⟩
end

/-! ### loops -/
section
variable {W : WX} {E : ET} {r : Rho} {m : Mu} {P : DEnds} {wi : TI} {g : TG} {tb : TS}
theorem ws_forI (h : Wi W E wi r m fun xs ps m1 => ∃ I : Nat → Rho → Mu → Prop, I 0 r m1 ∧ (∀ k r' m', I k r' m' → Sub ps m1 m') ∧
    (∀ k x r' m', xs[k]? = some x → I k r' m' → Wg W E g x r' m' fun r2 m2 => Ws W E tb r2 m2 { nx := I (k + 1), rt := P.rt, bk := P.nx, ct := I (k + 1) }) ∧ (∀ r' m', I xs.length r' m' → P.nx r' m')) :
    Ws W E (tFor wi g tb) r m P := fun s H De e z gg =>
  h s H _ e z fun J xs ps m1 H1 s1 mu1 it ⟨I, i0, isub, istep, iend⟩ => by
    refine ⟨fun i n s' H' => n = xs.length - i ∧ i ≤ xs.length ∧ ∃ r' m', Stp (dom m1) H1 (dom m') H' ∧ EnvR r' m' s' H' ∧ I i r' m', ⟨xs.length, rfl, Nat.zero_le _, r, m1, Stp.refl _ _, e.step s1 mu1, i0⟩, ?_⟩
    rintro i n s' H' ⟨rfl, hi, r', m', st, e', hI⟩
    have sb := isub i r' m' hI
    by_cases hlt : i < xs.length
    · refine .inr ⟨it.go i m' H' st e'.mu sb hlt, fun s2 H2 => ∃ r2 m2, Stp (dom m1) H1 (dom m2) H2 ∧ EnvR r2 m2 s2 H2 ∧ I (i + 1) r2 m2, fun s2 H2 q => ⟨_, by omega, rfl, hlt, q⟩, fun v H2 y => ?_⟩
      obtain ⟨d, hd, st2, mu2, rp⟩ := it.yld i m' H' st e'.mu sb v H2 y hlt
      refine istep i d r' m' hd hI s' H2 v _ (e'.step st2 mu2) (z.step (s1.trans (st.trans st2))) rp fun r3 m3 s3 H3 st3 e3 q3 => ?_
      have sta := st.trans (st2.trans st3)
      exact q3 s3 H3 _ e3 (z.step (s1.trans sta)) (goL gg (s1.trans sta) fun r4 m4 s4 H4 a4 b4 c4 => ⟨r4, m4, sta.trans a4, b4, c4⟩)
    · have ei : i = xs.length := by omega
      subst ei
      exact .inl ⟨it.stop m' H' st e'.mu sb, gg.nx r' m' s' H' (s1.trans st) e' (iend r' m' hI)⟩
end
end DL
set_option Elab.async false
set_option linter.all false
set_option maxRecDepth 100000
/-! DL22: mutable objects taken as fixed, for a while or for good; lists and tuples made of others; sums, joins, cuts. -/
namespace DL
open PySem PySem.Spec L2
open PyProof.Rows hiding St

/-! ### mutable objects taken as fixed -/
mutual
/-- d, where the objects of own that it names are taken as they lie -/
inductive Frz (own : Mu) : D → D → Prop
  | same (d : D) : Frz own d d
  | ref {p : Addr} {xs ys : List D} (h : At own p (.lst xs)) (t : FrzL own xs ys) : Frz own (.ref p) (.lst ys)
  | refI {p C : Addr} {ns : List Str} {ds es : List D} (h : At own p (.ins C ns ds)) (t : FrzL own ds es) : Frz own (.ref p) (.ins C ns es)
  | lst {xs ys : List D} (t : FrzL own xs ys) : Frz own (.lst xs) (.lst ys)
  | tup {xs ys : List D} (t : FrzL own xs ys) : Frz own (.tup xs) (.tup ys)
inductive FrzL (own : Mu) : List D → List D → Prop
  | nil : FrzL own [] []
  | cons {x y : D} {xs ys : List D} (h : Frz own x y) (t : FrzL own xs ys) : FrzL own (x :: xs) (y :: ys)
end
theorem FrzL.same {own : Mu} : ∀ xs : List D, FrzL own xs xs
  | [] => .nil
  | x :: xs => .cons (.same x) (FrzL.same xs)
theorem At.app {own base : Mu} {p : Addr} {o : MO} (h : At own p o) : At (own ++ base) p o := by
  induction h with
  | head => exact .head
  | tail _ ih => exact .tail ih
theorem At.appR {own base : Mu} {p : Addr} {o : MO} (h : At base p o) : At (own ++ base) p o := by
  induction own with
  | nil => exact h
  | cons q own ih => exact .tail ih
theorem dom_app {own base : Mu} {a : Addr} (h : dom base a) : dom (own ++ base) a := by
  unfold dom at *
  rw [List.map_append]
  exact List.mem_append_right _ h
theorem MutR.base {own base : Mu} {H : Hp} (r : MutR (own ++ base) H) : MutR base H := by
  induction own with
  | nil => exact r
  | cons q own ih => exact ih r.drop
theorem MutR.apart {own base : Mu} {H : Hp} (r : MutR (own ++ base) H) {p : Addr} {o : MO} (h : At own p o) : ¬ dom base p := by
  have nd := r.nd
  rw [List.map_append, List.nodup_append] at nd
  exact fun z => nd.2.2 p (List.mem_map.mpr ⟨_, h.mem, rfl⟩) p z rfl
theorem repF_of {M : Addr → Prop} {H : Hp} : ∀ {ns : List Str} {ds es : List D} {vs : List (Str × V)}, RepF M H ns ds vs → (∀ vs', vs.map (·.2) = vs' → Reps M H es vs') → es.length = ds.length → RepF M H ns es vs
  | _, _, es, _, .nil, _, hl => by
    cases es with
    | nil => exact .nil
    | cons _ _ => simp at hl
  | _, _, es, (n, v) :: vs, .cons r t, h, hl => by
    cases es with
    | nil => simp at hl
    | cons e es =>
      have q := h _ rfl
      simp only [List.map_cons] at q
      cases q with
      | cons q1 q2 => exact .cons q1 (repF_of t (fun vs' e => by subst e; exact q2) (by simpa using hl))
theorem repF_vals {M : Addr → Prop} {H : Hp} : ∀ {ns : List Str} {ds : List D} {vs : List (Str × V)}, RepF M H ns ds vs → Reps M H ds (vs.map (·.2))
  | _, _, _, .nil => .nil
  | _, _, _, .cons r t => .cons r (repF_vals t)
theorem FrzL.len {own : Mu} : ∀ {xs ys : List D}, FrzL own xs ys → ys.length = xs.length
  | _, _, .nil => rfl
  | _, _, .cons _ t => congrArg (· + 1) (FrzL.len t)
mutual
theorem Frz.rep {own base : Mu} {H : Hp} (mu : MutR (own ++ base) H) : ∀ {d d' : D}, Frz own d d' → ∀ {v : V}, Rep (dom (own ++ base)) H d v → Rep (dom base) H d' v
  | _, _, .same d, v, r => r.mono (Stp.less fun a z => dom_app z)
  | _, _, .ref h t, v, r => by
    cases r
    have q := (h.app (base := base)).rep mu
    cases q with
    | lst hh rs => exact .lst (mu.apart h) (.inl hh) (FrzL.rep mu t rs)
  | _, _, .refI h t, v, r => by
    cases r
    have q := (h.app (base := base)).rep mu
    cases q with
    | ins hh rf => exact .ins (mu.apart h) hh (repF_of (rf.mono (Stp.less fun a z => dom_app z)) (fun vs' e => by subst e; exact FrzL.rep mu t (repF_vals rf)) t.len)
  | _, _, .lst t, v, r => by
    cases r with
    | lst mm hh rs => exact .lst (fun z => mm (dom_app z)) hh (FrzL.rep mu t rs)
  | _, _, .tup t, v, r => by
    cases r with
    | tup mm hh rs => exact .tup (fun z => mm (dom_app z)) hh (FrzL.rep mu t rs)
theorem FrzL.rep {own base : Mu} {H : Hp} (mu : MutR (own ++ base) H) : ∀ {d d' : List D}, FrzL own d d' → ∀ {v : List V}, Reps (dom (own ++ base)) H d v → Reps (dom base) H d' v
  | _, _, .nil, _, .nil => .nil
  | _, _, .cons h t, _, .cons r q => .cons (Frz.rep mu h r) (FrzL.rep mu t q)
end
inductive FrzR (own : Mu) : Rho → Rho → Prop
  | nil : FrzR own [] []
  | none {o : Option D} {r r' : Rho} (t : FrzR own r r') : FrzR own (o :: r) (none :: r')
  | same {o : Option D} {r r' : Rho} (t : FrzR own r r') : FrzR own (o :: r) (o :: r')
  | some {d d' : D} {r r' : Rho} (h : Frz own d d') (t : FrzR own r r') : FrzR own (some d :: r) (some d' :: r')
theorem FrzR.ros {own base : Mu} {H : Hp} (mu : MutR (own ++ base) H) : ∀ {r r' : Rho}, FrzR own r r' → ∀ {s : L2.St}, ROs (dom (own ++ base)) H r s → ROs (dom base) H r' s
  | _, _, .nil, _, .nil => .nil
  | _, _, .none t, _, .cons _ q => .cons (.none _) (FrzR.ros mu t q)
  | _, _, .same t, _, .cons o q => .cons (o.mono (Stp.less fun a z => dom_app z)) (FrzR.ros mu t q)
  | _, _, .some h t, _, .cons o q => by
    cases o with
    | some r => exact .cons (.some (Frz.rep mu h r)) (FrzR.ros mu t q)
theorem EnvR.frz {own base : Mu} {r r' : Rho} {s : L2.St} {H : Hp} (e : EnvR r (own ++ base) s H) (f : FrzR own r r') : EnvR r' base s H := ⟨f.ros e.mu e.env, e.mu.base⟩
section
variable {W : WX} {E : ET} {r r' : Rho} {m base : Mu} {K : KT} {P : DEnds} {te : TE} {t : TS}
/-- for good -/
theorem Ws.frz (own : Mu) (f : FrzR own r r') (h : Ws W E t r' base P) : Ws W E t r (own ++ base) P := fun s H De e z g => by
  have ls : Stp (dom (own ++ base)) H (dom base) H := Stp.less fun a z => dom_app z
  exact h s H De (e.frz f) (z.step ls) ⟨fun r' m' s' H' a b k => g.nx r' m' s' H' (ls.trans a) b k, fun d m' v H' a b c k => g.rt d m' v H' (ls.trans a) b c k, fun r' m' s' H' a b k => g.bk r' m' s' H' (ls.trans a) b k, fun r' m' s' H' a b k => g.ct r' m' s' H' (ls.trans a) b k⟩
/-- an answer -/
theorem we_frzD (own : Mu) {d d' : D} (f : Frz own d d') (h : We W E te r m fun x m' => x = d ∧ m' = own ++ base ∧ K d' base) : We W E te r m K := fun s H Q e z g =>
  h s H _ e z fun x m' v H1 s1 mu1 r1 ⟨e1, e2, k⟩ => by
    subst e1 e2
    have ls : Stp (dom (own ++ base)) H1 (dom base) H1 := Stp.less fun a z => dom_app z
    exact g d' base v H1 (s1.trans ls) mu1.base (f.rep mu1 r1) k
def atomD : D → Bool
  | .non => true
  | .bl _ => true
  | .int _ => true
  | .str _ => true
  | .ty _ => true
  | _ => false
theorem rep_atom {M M' : Addr → Prop} {H H' : Hp} {v : V} : ∀ {d : D}, atomD d = true → Rep M H d v → Rep M' H' d v
  | .non, _, .non => .non
  | .bl _, _, .bl _ => .bl _
  | .int _, _, .int _ => .int _
  | .str _, _, .str _ => .str _
  | .ty _, _, .ty _ => .ty _
/-- for the while of an expression that writes nothing and answers an atom -/
theorem we_thaw (f : FrzR m r r') (h : We W (fun _ _ _ => False) te r' [] fun d m' => m' = [] ∧ atomD d = true ∧ K d m) : We W E te r m K := fun s H Q e z g => by
  have em : m ++ [] = m := List.append_nil m
  have e' : EnvR r (m ++ []) s H := by rw [em]; exact e
  refine h s H _ (e'.frz f) (fun _ _ _ _ _ _ _ _ _ _ q => q.elim) fun d m' v H1 s1 mu1 r1 ⟨hm, ha, k⟩ => ?_
  subst hm
  have un : ∀ a o, H a = some o → H1 a = some o := fun a o ho => (s1 a o ho dom_nil).1
  have st : Stp (dom m) H (dom m) H1 := fun a o ho hn => ⟨un a o ho, hn⟩
  exact g d m v H1 st ⟨e.mu.nd, fun q hq => (e.mu.at_ q hq).mono st fun u hu => un _ _ hu⟩ (rep_atom ha r1) k
/-- the order in which mutable objects are told says nothing -/
theorem MutR.perm {m m' : Mu} {H : Hp} (r : MutR m H) (p : m.Perm m') : MutR m' H ∧ dom m' = dom m := by
  have hd : dom m' = dom m := funext fun a => propext ⟨fun h => (p.map (·.1)).mem_iff.mpr h, fun h => (p.map (·.1)).mem_iff.mp h⟩
  refine ⟨⟨(p.map (·.1)).nodup_iff.mp r.nd, fun q hq => ?_⟩, hd⟩
  rw [hd]
  exact r.at_ q (p.mem_iff.mpr hq)
theorem we_perm (h : We W E te r m fun d m' => ∃ m'', m'.Perm m'' ∧ K d m'') : We W E te r m K := fun s H Q e z g =>
  h s H _ e z fun d m' v H1 s1 mu1 r1 ⟨m'', p, k⟩ => by
    obtain ⟨mu2, hd⟩ := mu1.perm p
    rw [← hd] at s1 r1
    exact g d m'' v H1 s1 mu2 r1 k
end

/-! ### lists and tuples made of others; sums -/
section
variable {X : Cx} {W : WX} {E : ET} {r : Rho} {m : Mu} {K : KT} {G : Gx} {j : Nat} {te : TE}
def rListOf (K : PySem.W.Frag) : List V → Hp → VK → Prop := fun xs H Q => ∃ p ys, xs = [.ref p] ∧ (SqL K H p ys ∨ SqT K H p ys) ∧ ∀ l, H l = none → Q (.ref l) (upd H l (.lst ys))
def rTupleOf (K : PySem.W.Frag) : List V → Hp → VK → Prop := fun xs H Q => ∃ p ys, xs = [.ref p] ∧ ((SqL K H p ys ∧ ∀ l, H l = none → Q (.ref l) (upd H l (.tup ys))) ∨ (SqT K H p ys ∧ Q (.ref p) H))
def cListF (G : Gx) : OC := fun xs _ H Q => rListOf G.K xs H Q
def cTupleF (G : Gx) : OC := fun xs _ H Q => rTupleOf G.K xs H Q
def cSumF (G : Gx) : OC := fun xs _ H Q => rSum G.K xs H Q
theorem cs_list : CallS X (.type "list") (cListF (Gx.of X)) := CallS.of call_list_of
theorem cs_tuple : CallS X (.type "tuple") (cTupleF (Gx.of X)) := CallS.of call_tuple_of
theorem cs_sum (hc : X.calm = true) : CallS X (.builtin "sum") (cSumF (Gx.of X)) := CallS.of (cr_sum hc)
theorem seqM_or {k : Bool} {K : PySem.W.Frag} {H : Hp} {a : Addr} {vs : List V} (h : SqS k K H a vs) : SqL K H a vs ∨ SqT K H a vs := by
  cases k with
  | true => exact .inr h
  | false => exact .inl h
theorem new_notin {m : Mu} {H : Hp} {p : Addr} (mu : MutR m H) (hp : H p = none) : ¬ dom m p := fun zz => by
  obtain ⟨u, hu⟩ := mu.there zz
  rw [hp] at hu
  cases hu
theorem wc_listF {d : D} {ps : List Addr} {xs : List D} (sm : SeqM d m ps xs) (h : K (.lst xs) m) : Wc W E (cListF G) [d] r m K := fun s H Q vs e z rs g => by
  cases rs with
  | cons a t =>
    cases t
    obtain ⟨k, p, rfl, q⟩ := sm.at (K := G.K) a e.mu
    obtain ⟨ws, sq, rw'⟩ := q m H (Stp.refl _ _) e.mu Sub.refl
    exact ⟨p, ws, rfl, seqM_or sq, fun l hl => g _ m _ _ (Stp.new hl) (e.mu.new hl) (.lst (new_notin e.mu hl) (.inl upd_same) (rw'.mono (Stp.new hl))) h⟩
theorem wc_listM {d : D} {ps : List Addr} {xs : List D} (sm : SeqM d m ps xs) (h : ∀ p, ¬ dom m p → K (.ref p) ((p, .lst xs) :: m)) : Wc W E (cListF G) [d] r m K := fun s H Q vs e z rs g => by
  cases rs with
  | cons a t =>
    cases t
    obtain ⟨k, p, rfl, q⟩ := sm.at (K := G.K) a e.mu
    obtain ⟨ws, sq, rw'⟩ := q m H (Stp.refl _ _) e.mu Sub.refl
    exact ⟨p, ws, rfl, seqM_or sq, fun l hl => g _ _ _ _ (Stp.newM (x := .lst xs) hl) (e.mu.newM hl (.lst upd_same (rw'.mono (Stp.newM hl)))) (.ref l) (h l (new_notin e.mu hl))⟩
theorem wc_tupleL {d : D} {ps : List Addr} {xs : List D} (sm : SeqM d m ps xs) (h : K (.tup xs) m) : Wc W E (cTupleF G) [d] r m K := fun s H Q vs e z rs g => by
  cases rs with
  | cons a t =>
    cases t
    have ra := a
    cases sm with
    | tup =>
      cases ra with
      | @tup p _ ws mm hh rr => exact ⟨p, ws, rfl, .inr ⟨rd_t hh, g _ m _ H (Stp.refl _ _) e.mu a h⟩⟩
    | lst =>
      cases ra with
      | @lst p _ ws mm hh rr => exact ⟨p, ws, rfl, .inl ⟨rd_l hh, fun l hl => g _ m _ _ (Stp.new hl) (e.mu.new hl) (.tup (new_notin e.mu hl) upd_same (rr.mono (Stp.new hl))) h⟩⟩
    | mutb hp =>
      cases ra
      have q := hp.rep e.mu
      cases q with
      | lst hh rr => exact ⟨_, _, rfl, .inl ⟨SqL.of hh, fun l hl => g _ m _ _ (Stp.new hl) (e.mu.new hl) (.tup (new_notin e.mu hl) upd_same (rr.mono (Stp.new hl))) h⟩⟩
/-- a list, not a tuple -/
inductive LstM : D → Mu → List D → Prop
  | lst {m : Mu} {xs : List D} : LstM (.lst xs) m xs
  | mutb {m : Mu} {p : Addr} {xs : List D} (h : At m p (.lst xs)) : LstM (.ref p) m xs
theorem LstM.rd {d : D} {m : Mu} {xs : List D} {H : Hp} {v : V} (l : LstM d m xs) (mu : MutR m H) (rp : Rep (dom m) H d v) : ∃ a vs, v = .ref a ∧ Rd H a (.lst vs) ∧ Reps (dom m) H xs vs := by
  cases l with
  | lst =>
    cases rp with
    | lst mm hh rs => exact ⟨_, _, rfl, hh, rs⟩
  | mutb h =>
    cases rp
    have q := h.rep mu
    cases q with
    | lst hh rs => exact ⟨_, _, rfl, .inl hh, rs⟩
theorem reps_ints {M : Addr → Prop} {H : Hp} : ∀ {ns : List Int} {vs : List V}, Reps M H (ns.map D.int) vs → vs = ns.map V.int
  | [], _, .nil => rfl
  | n :: ns, _, .cons r t => by
    cases r
    rw [reps_ints t]
    rfl
theorem wc_sumF {d : D} {xs : List D} {ns : List Int} (l : LstM d m xs) (e : xs = ns.map D.int) (h : K (.int ns.sum) m) : Wc W E (cSumF G) [d] r m K := fun s H Q vs en z rs g => by
  cases rs with
  | cons a t =>
    cases t
    obtain ⟨p, ws, rfl, hh, rr⟩ := l.rd en.mu a
    subst e
    rw [reps_ints rr] at hh
    exact ⟨p, ns, rfl, rd_l hh, g _ m _ H (Stp.refl _ _) en.mu (.int _) h⟩
/-- two lists joined -/
theorem w2_catL {x y : D} {xs ys : List D} (lx : LstM x m xs) (ly : LstM y m ys) (hl : xs.length + ys.length ≤ 1000000) (h : K (.lst (xs ++ ys)) m) : W2 W E (oAdd G j W) x y r m K := fun s H Q v w e z rx ry g => by
  obtain ⟨a, vs, rfl, ha, ra⟩ := lx.rd e.mu rx
  obtain ⟨b, ws, rfl, hb, rb⟩ := ly.rd e.mu ry
  refine .inr (.inr (.inl ⟨a, b, vs, ws, rfl, rfl, ha, hb, ?_, fun p hp => ?_⟩))
  · rw [← ra.length, ← rb.length]
    exact Nat.le_trans hl (by decide : 1000000 ≤ sizeLine)
  · exact g _ m _ _ (Stp.new hp) (e.mu.new hp) (.lst (new_notin e.mu hp) (.inl upd_same) ((Reps.append ra rb).mono (Stp.new hp))) h
/-- xs[lo:hi] of any list -/
theorem we_slM {tl th : TO} (h : We W E te r m fun d m1 => ∃ xs, LstM d m1 xs ∧ Wo W E tl r m1 fun lo m2 => LstM d m2 xs ∧ Wo W E th r m2 fun hi m3 => LstM d m3 xs ∧ K (.lst (cutD xs lo hi)) m3) : We W E (tSl (rSlL G.K) te tl th) r m K := fun s H Q e z g =>
  h s H _ e z fun d m1 v H1 s1 mu1 r1 ⟨xs, l1, q⟩ => by
    refine q s H1 _ (e.step s1 mu1) (z.step s1) fun lo m2 H2 s2 mu2 ⟨l2, q2⟩ => ?_
    refine q2 s H2 _ ((e.step s1 mu1).step s2 mu2) ((z.step s1).step s2) fun hi m3 H3 s3 mu3 ⟨l3, k⟩ => ?_
    obtain ⟨a, vs, rfl, hh, rs⟩ := l3.rd mu3 ((r1.mono s2).mono s3)
    exact ⟨_, _, rfl, rd_l hh, fun p hp => g _ m3 _ _ (((s1.trans s2).trans s3).trans (Stp.new hp)) (mu3.new hp) (.lst (new_notin mu3 hp) (.inl upd_same) ((rs.cut lo hi).mono (Stp.new hp))) k⟩
end
end DL
set_option Elab.async false
set_option linter.all false
set_option maxRecDepth 100000
/-! DL29: texts; str and int of many digits; class methods, a class in a variable. -/
namespace DL
open PySem PySem.Spec L2
open PyProof.Rows hiding St
/-! ### the digits' limit is Python's own -/
structure NoDig (K : PySem.W.Frag) : Prop where
  no : PySem.W.nsIn K cStatics "sys.int_max_str_digits" = some none
theorem NoDig.inv {X : Cx} (n : NoDig X.K) {pins : List (Addr × Obj)} {σ : L2.St} {H : Hp} {s : Shared} (I : Inv X pins σ H s) : s.heap.NoDigits := by
  obtain ⟨mc, hns, _⟩ := I.nolimit
  exact ⟨mc, hns, PySem.W.ns_none_of I.kIn hns n.no⟩
/-- a number of at most k digits -/
structure Dg (k : Nat) (i : Int) : Prop where
  lt : i.natAbs < 10 ^ k
theorem Dg.mono {j k : Nat} {i : Int} (h : Dg j i) (hk : j ≤ k) : Dg k i := ⟨Nat.lt_of_lt_of_le h.lt (Nat.pow_le_pow_right (by decide) hk)⟩
theorem Dg.neg {k : Nat} {i : Int} (h : Dg k i) : Dg k (-i) := ⟨by rw [Int.natAbs_neg]; exact h.lt⟩
theorem Dg.mul {j k : Nat} {a b : Int} (ha : Dg j a) (hb : Dg k b) : Dg (j + k) (a * b) := ⟨by
  rw [Int.natAbs_mul, Nat.pow_add]
  exact Nat.mul_lt_mul_of_lt_of_le ha.lt (Nat.le_of_lt hb.lt) (Nat.pow_pos (by decide))⟩
theorem Dg.succ {k : Nat} {a : Int} (ha : Dg k a) : Dg (k + 1) (a + 1) := ⟨by
  have h := ha.lt
  have p : 0 < 10 ^ k := Nat.pow_pos (by decide)
  rw [Nat.pow_succ]
  generalize 10 ^ k = P at *
  omega⟩
section
variable {X : Cx}
theorem call_strL (nd : NoDig X.K) (hc : X.calm = true) : CallR X (.type "str") (fun xs H Q => ∃ i k, xs = [.int i] ∧ k ≤ 4300 ∧ Dg k i ∧ Q (.str (toString i)) H) := by
  intro pins s σ H xs us Q I r h
  obtain ⟨i, k, rfl, hk, hd, q⟩ := h
  obtain ⟨u, rfl, t, rfl⟩ := vals1 r
  have hl := (hd.mono hk).lt
  exact PyProof.Rows.str_of_int_or (I.ok.hd hc) (nd.inv I) (fun _ => ⟨.str _, H, I.tok _, ⟨_, rfl⟩, q⟩) (fun h2 => absurd hl (Nat.not_lt.mpr h2))
end
/-! ### int(text), up to 4300 signs -/
theorem wp_maxd {M : Model} {A : Around} {E : Value → Shared → Prop} {s : Shared} {Q : Nat → Shared → Prop} (hd : s.heap.NoDigits) (h : Q 4300 s) : wpAny M A Builtin.intMaxStrDigits Q E s := by
  obtain ⟨mc, hns, hnone⟩ := hd
  unfold Builtin.intMaxStrDigits
  refine wpAny_bind (wpAny_nsGet hns ?_)
  rw [hnone]
  exact wpAny_pure h
theorem wp_textB {M : Model} {A : Around} {E : Value → Shared → Prop} {s : Shared} {Q : Value → Shared → Prop} {v : Value} {text : List Nat} {n : Int} (hd : s.heap.NoDigits)
    (hs : ¬ (text.takeWhile (· != 0)).length ≤ 640) (hr : (int_private% "readNumeral") 4300 10 (text.takeWhile (· != 0)) = (int_private% "Numeral.value") n)
    (ha : ((text.takeWhile (· != 0)).length == text.length) = true) (h : Q (.int n s.toks) { s with toks := s.toks + 1 }) :
    wpAny M A ((int_private% "intFromText") v text 10) Q E s := by
  obtain ⟨hp, g, d, tk, os⟩ := s
  repeat (any_goals (first
    | assumption
    | (with_reducible refine wpAny_ite_false (decide_eq_false hs) ?_)
    | (with_reducible refine wpAny_ite_true (decide_eq_true ha) ?_)
    | ((with_reducible show wpAny _ _ Builtin.intMaxStrDigits _ _ _); refine wp_maxd hd ?_)
    | wp_step))
  all_goals (try rw [hr])
  all_goals (try dsimp only)
  repeat (any_goals (first
    | assumption
    | (with_reducible refine wpAny_ite_true (decide_eq_true ha) ?_)
    | wp_step))
theorem wp_textA {M : Model} {A : Around} {E : Value → Shared → Prop} {s : Shared} {Q : Value → Shared → Prop} {v : Value} {x : PySem.Str} {n : Int} (hd : s.heap.NoDigits)
    (hl : x.length ≤ 4300) (hn : PySem.intText? x = some n) (h : Q (.int n s.toks) { s with toks := s.toks + 1 }) :
    wpAny M A ((int_private% "intFromText") v (numTextOf x) 10) Q E s := by
  by_cases hs : (numSeenOf x).length ≤ 640
  · rcases read0 x hs with ⟨m, h1, h2, h3⟩ | ⟨h1, _⟩
    · rw [hn] at h1
      injection h1 with h1
      subst h1
      exact PySem.W.KIN.wp_text hs h3 h2 h
    · rw [hn] at h1
      cases h1
  · rcases read4300 x (Nat.le_trans hl (by decide)) with ⟨m, h1, h2, h3⟩ | ⟨h1, _⟩
    · rw [hn] at h1
      injection h1 with h1
      subst h1
      have hs' : ¬ ((numTextOf x).takeWhile (· != 0)).length ≤ 640 := hs
      have ha : (((numTextOf x).takeWhile (· != 0)).length == (numTextOf x).length) = true := h2
      have hr : (int_private% "readNumeral") 4300 10 ((numTextOf x).takeWhile (· != 0)) = (int_private% "Numeral.value") n := h3
      exact wp_textB hd hs' hr ha h
    · rw [hn] at h1
      cases h1
structure HidT (p : Prop) : Prop where
  out : p
set_option maxHeartbeats 4000000 in
theorem meets_text {x : PySem.Str} {u : Tok} {n : Int} (hl : x.length ≤ 4300) (hn : PySem.intText? x = some n) :
    Meets (Builtin.«int.__new__» ⟨[.type "int", .str x u], []⟩) (fun _ R s => s.heap.NoDigits ∧ R (.ok (.ret (.int n s.toks))) { s with toks := s.toks + 1 }) :=
  .of_wp fun prog w A R s h => by
    obtain ⟨hd, h⟩ := h
    obtain ⟨hp, g, d, tk, os⟩ := s
    have f1 := F.conv_sub_int
    have f2 := F.madeHere_int
    have f3 := PySem.W.KIN.str_int
    have f4 := PySem.W.KIN.str_idx
    have f5 := PySem.W.KIN.str_trunc
    have f6 : typeOf (.str x u) = pure (.type "str") := rfl
    have hk := HidT.mk (And.intro hl hn)
    have hdd := HidT.mk hd
    clear hl hn hd
    repeat (any_goals (first
      | assumption
      | ((with_reducible show wpAny _ _ ((int_private% "intFromText") _ _ _) _ _ _); refine wp_textA (x := x) hdd.out hk.out.1 hk.out.2 ?_)
      | wp_step))
    all_goals first | exact h | exact ⟨_, rfl, h⟩ | skip
section
variable {X : Cx}
theorem call_intL (nd : NoDig X.K) : CallR X (.type "int") (fun xs H Q => ∃ a n, xs = [.str a] ∧ PySem.intText? a = some n ∧ a.length ≤ 4300 ∧ Q (.int n) H) := by
  intro pins s σ H xs us Q I r h
  obtain ⟨a, n, rfl, hn, hl, q⟩ := h
  obtain ⟨u, rfl, t, rfl⟩ := vals1 r
  exact call_int_1 (meets_text hl hn) ⟨nd.inv I, rfl, .int n, H, I.tok _, ⟨_, rfl⟩, q⟩
/-! ### a text, n times -/
theorem op_repS : OpR X (binaryOp .Mult) (fun x y H Q => ∃ (a : List Nat) (n : Nat), x = .str (SX.S a) ∧ y = .int (n : Int) ∧ a ≠ [] ∧ 2 ≤ n ∧ a.length * n ≤ 1000000 ∧ Q (.str (SX.S (List.replicate n a).flatten)) H) := by
  intro pins s σ H x y v u Q I rx ry h
  obtain ⟨a, n, rfl, rfl, ha, hn, hs, q⟩ := h
  obtain ⟨t, rfl⟩ := rx
  obtain ⟨t', rfl⟩ := ry
  have hp : 0 < a.length := List.length_pos_iff.mpr ha
  have hn2 : n ≤ a.length * n := Nat.le_mul_of_pos_left n hp
  have el : (SX.S a).length = a.length := SX.S_len a
  have e2 : ∀ (k : Nat) (acc : Array Nat), (List.replicate k a.toArray).foldl (· ++ ·) acc = (acc.toList ++ (List.replicate k a).flatten).toArray := by
    intro k
    induction k with
    | zero => intro acc; simp
    | succ k ih =>
      intro acc
      rw [List.replicate_succ, List.foldl_cons, ih, List.replicate_succ, List.flatten_cons]
      simp
  refine P.mul_str ?_ (fun _ _ => ?_) (fun _ _ => ?_) ?_
  · rw [decide_eq_false (show ¬ (n : Int) < -(2 ^ 63) by omega), decide_eq_false (show ¬ (n : Int) ≥ 2 ^ 63 by omega)]
    rfl
  · rw [el]
    refine Int.not_lt.mpr ((Int.le_ediv_iff_mul_le (by omega)).mpr ?_)
    have : ((a.length : Int) * (n : Int)) = ((a.length * n : Nat) : Int) := (Int.natCast_mul _ _).symm
    omega
  · rw [el, Int.toNat_natCast]
    have : ∀ k : Nat, k ≤ 1000000 → Builtin.Str.tooLong k = false := fun k hk => by
      unfold Builtin.Str.tooLong
      have := sizeLine_eq
      simp
      omega
    exact this _ hs
  · rw [if_neg (show ¬ (n : Int) < 1 by omega), if_neg (show ¬ (((n : Int) == 1 || (SX.S a).length == 0) = true) by
      rw [el]
      simp only [Bool.or_eq_true, beq_iff_eq, not_or]
      omega), Int.toNat_natCast]
    have e3 : (⟨(List.replicate n (SX.S a).cps).foldl (· ++ ·) #[]⟩ : Str) = SX.S (List.replicate n a).flatten := by
      show (⟨(List.replicate n a.toArray).foldl (· ++ ·) #[]⟩ : Str) = _
      rw [e2]
      rfl
    rw [e3]
    refine ⟨?_, .str _, H, I.tok _, ⟨_, rfl⟩, q⟩
    rw [SX.S_len, List.length_flatten, List.map_replicate, List.sum_replicate_nat, Nat.mul_comm]
    exact Nat.le_trans hs (by decide)
end
end DL
set_option Elab.async false
set_option linter.all false
set_option maxRecDepth 100000
/-! DL30: what the steps on texts do to trees. -/
namespace DL
open PySem PySem.Spec L2
open PyProof.Rows hiding St
open SX (S)
/-- a text by its signs -/
abbrev ts (l : List Nat) : D := .str (S l)
/-- a whole number's signs -/
def numS (i : Int) : List Nat := if 0 ≤ i then TL.numL i.toNat else 45 :: TL.numL (-i).toNat
theorem numS_str (i : Int) : (Str.ofString (toString i) : Str) = S (numS i) := by
  unfold numS
  by_cases h : 0 ≤ i
  · rw [if_pos h]
    obtain ⟨n, rfl⟩ := Int.eq_ofNat_of_zero_le h
    exact SX.num_S n
  · rw [if_neg h]
    obtain ⟨n, hn⟩ := Int.eq_ofNat_of_zero_le (show 0 ≤ -i - 1 by omega)
    obtain rfl : i = Int.negSucc n := by omega
    have e : (-(Int.negSucc n)).toNat = n + 1 := by omega
    rw [e]
    refine TL.ext_tl ?_
    have a := TL.tl_num (n + 1)
    rw [TL.tl_ofString] at a ⊢
    show (("-" : String) ++ Nat.repr (n + 1)).toList.map Char.toNat = 45 :: TL.numL (n + 1)
    rw [← a, String.toList_append]
    rfl
section
variable {X : Cx} {W : WX} {E : ET} {r : Rho} {m : Mu} {K : KT} {G : Gx} {j k : Nat} {te to : TE} {e o : Expr} {pos p : Pos} {n : Nat} {C : Addr} {SS : SpecD} {dd : List D} {t : TA} {es : List Expr} {x mt : Str} {i : Nat} {apos : Pos}
theorem pe_strS {x : Str} {jj pp} {l : List Nat} (e : x = S l) : PE X (.Constant (.str x) jj pp) (tC (.str (S l))) := by
  rw [← e]
  exact pe_str
/-! ### calls -/
def cStrL : OC := fun xs _ H Q => ∃ i k, xs = [.int i] ∧ k ≤ 4300 ∧ Dg k i ∧ Q (.str (toString i)) H
theorem cs_strL (nd : NoDig X.K) (hc : X.calm = true) : CallS X (.type "str") cStrL := CallS.of (call_strL nd hc)
theorem wc_strL {i : Int} {k : Nat} (hd : Dg k i) (hk : k ≤ 4300) (h : K (ts (numS i)) m) : Wc W E cStrL [.int i] r m K := fun s H Q vs e z rs g => by
  cases rs with
  | cons a tt =>
    cases tt
    cases a
    exact ⟨i, k, rfl, hk, hd, by
      have q := g _ m _ H (Stp.refl _ _) e.mu (.str _) h
      rw [← numS_str] at q
      exact q⟩
def cIntL : OC := fun xs s H Q => cInt xs s H Q ∨ ∃ a n, xs = [.str a] ∧ PySem.intText? a = some n ∧ a.length ≤ 4300 ∧ Q (.int n) H
theorem cs_intL (nd : NoDig X.K) : CallS X (.type "int") cIntL := cs_int.or (CallS.of (call_intL nd))
theorem wc_intLI {i : Int} (h : K (.int i) m) : Wc W E cIntL [.int i] r m K := fun s H Q vs e z rs g => .inl (wc_int h s H Q vs e z rs g)
theorem wc_intLT {l : List Nat} {n : Int} (hl : l.length ≤ 4300) (hn : PySem.intText? (S l) = some n) (h : K (.int n) m) : Wc W E cIntL [ts l] r m K := fun s H Q vs e z rs g => by
  cases rs with
  | cons a tt =>
    cases tt
    cases a
    exact .inr ⟨S l, n, rfl, hn, by rw [SX.S_len]; exact hl, g _ m _ H (Stp.refl _ _) e.mu (.int _) h⟩
theorem wc_lenS {l : List Nat} (hl : l.length ≤ 1000000) (h : K (.int (l.length : Nat)) m) : Wc W E (cLen G) [ts l] r m K := fun s H Q vs e z rs g => by
  cases rs with
  | cons a t =>
    cases t
    cases a
    exact ⟨_, l.length, rfl, ⟨by rw [SX.S_len]; exact Nat.le_trans hl (by decide), (SX.S_len l).symm⟩, g _ m _ H (Stp.refl _ _) e.mu (.int _) h⟩
/-! ### operators -/
def oMulS : O2 := fun x y _ H Q => ∃ (a : List Nat) (n : Nat), x = .str (S a) ∧ y = .int (n : Int) ∧ a ≠ [] ∧ 2 ≤ n ∧ a.length * n ≤ 1000000 ∧ Q (.str (S (List.replicate n a).flatten)) H
theorem os_mulS : OpS X (binaryOp .Mult) oMulS := OpS.of op_repS
theorem w2_mulS {l : List Nat} {i : Int} (n : Nat) (ei : i = (n : Int)) (ha : l ≠ []) (hn : 2 ≤ n) (hs : l.length * n ≤ 1000000) (h : K (ts (List.replicate n l).flatten) m) : W2 W E oMulS (ts l) (.int i) r m K :=
  w2_val (fun _ _ _ => rstr) (fun _ _ _ => rint) (fun _ _ => .str _) (fun _ _ _ q => ⟨l, n, rfl, by rw [ei], ha, hn, hs, q⟩) h
def oNinS : O2 := fun x y _ H Q => ∃ (c : Nat) (z : Str), x = .str ⟨#[c]⟩ ∧ y = .str z ∧ Q (.bl (!decide (c ∈ z.cps.toList))) H
theorem os_ninS : OpS X (compareOp .NotIn) oNinS := OpS.of op_notIn_sign
theorem w2_ninS {c : Nat} {l : List Nat} (h : K (.bl (!decide (c ∈ l))) m) : W2 W E oNinS (ts [c]) (ts l) r m K :=
  w2_val (fun _ _ _ => rstr) (fun _ _ _ => rstr) (fun _ _ => .bl _) (fun _ _ _ q => ⟨c, S l, rfl, rfl, q⟩) h
theorem dec_ts {a b : List Nat} : decide ((V.str (S a)) = .str (S b)) = decide (a = b) := by
  by_cases h : a = b
  · subst h
    simp
  · rw [decide_eq_false h, decide_eq_false]
    intro z
    injection z with z
    exact h (SX.S_inj z)
theorem w2_addS {a b : List Nat} (hl : a.length + b.length ≤ 1000000) (h : K (ts (a ++ b)) m) : W2 W E (oAdd G j W) (ts a) (ts b) r m K :=
  w2_addStr (by rw [SX.S_len, SX.S_len]; exact Nat.le_trans hl (by decide)) (by rw [SX.S_cat]; exact h)
theorem w2_eqS {a b : List Nat} (h : K (.bl (decide (a = b))) m) : W2 W E (oEqF G j W) (ts a) (ts b) r m K :=
  w2_val (fun _ _ _ => rstr) (fun _ _ _ => rstr) (fun _ _ => .bl _) (fun _ _ _ q => .inl ⟨rfl, by rw [dec_ts]; exact q⟩) h
theorem w2_neS {a b : List Nat} (h : K (.bl (!decide (a = b))) m) : W2 W E (oNeF G j W) (ts a) (ts b) r m K :=
  w2_val (fun _ _ _ => rstr) (fun _ _ _ => rstr) (fun _ _ => .bl _) (fun _ _ _ q => .inl ⟨rfl, by rw [dec_ts]; exact q⟩) h
theorem w2_eqHS {a b : List Nat} (h : K (.bl (decide (a = b))) m) : W2 W E (oEqHF G) (ts a) (ts b) r m K :=
  w2_val (fun _ _ _ => rstr) (fun _ _ _ => rstr) (fun _ _ => .bl _) (fun _ _ _ q => .inl ⟨rfl, by rw [dec_ts]; exact q⟩) h
theorem w2_ixS {l : List Nat} {i : Int} {c : Nat} (hl : l.length ≤ 1000000) (hc : atI l i = some c) (h : K (ts [c]) m) : W2 W E (oIx G) (ts l) (.int i) r m K :=
  w2_val (fun _ _ _ => rstr) (fun _ _ _ => rint) (fun _ _ => .str _) (fun _ _ _ q => .inr (.inr ⟨S l, i, c, rfl, rfl, by rw [SX.S_len]; exact Nat.le_trans hl (by decide), hc, q⟩)) h
theorem kit_ss {K : PySem.W.Frag} : PySem.W.kitOne K (.type "str") (.type "str") = some true := kit_ty (by decide +kernel)
/-! ### slices -/
theorem cutS_pre {l : List Nat} (i : Int) (h : 0 ≤ i) : cutS (S l) none (some i) = S (l.take i.toNat) := (sliceText_cut _ _ _).symm.trans (SX.slice_to h)
theorem cutS_suf {l : List Nat} (i : Int) (h : 0 ≤ i) : cutS (S l) (some i) none = S (l.drop i.toNat) := (sliceText_cut _ _ _).symm.trans (SX.slice_from h)
theorem we_slX {tl th : TO} (h : We W E te r m fun d m1 => ∃ l : List Nat, d = ts l ∧ l.length ≤ 1000000 ∧ Wo W E tl r m1 fun lo m2 => Wo W E th r m2 fun hi m3 => K (.str (cutS (S l) lo hi)) m3) : We W E (tSl rSlS te tl th) r m K := fun s H Q e z g =>
  h s H _ e z fun d m1 v H1 s1 mu1 r1 ⟨l, ed, hl, q⟩ => by
    subst ed
    cases r1
    refine q s H1 _ (e.step s1 mu1) (z.step s1) fun lo m2 H2 s2 mu2 q2 => ?_
    refine q2 s H2 _ ((e.step s1 mu1).step s2 mu2) ((z.step s1).step s2) fun hi m3 H3 s3 mu3 k => ?_
    exact ⟨S l, rfl, by rw [SX.S_len]; exact Nat.le_trans hl (by decide), g _ m3 _ H3 ((s1.trans s2).trans s3) mu3 (.str _) k⟩
theorem we_slXp (h : We W E te r m fun d m1 => ∃ l : List Nat, d = ts l ∧ l.length ≤ 1000000 ∧ We W E to r m1 fun d2 m2 => ∃ i : Int, d2 = .int i ∧ 0 ≤ i ∧ K (ts (l.take i.toNat)) m2) : We W E (tSl rSlS te tNoPart (tPart to)) r m K :=
  we_slX (h.imp fun d m1 ⟨l, ed, hl, q⟩ => ⟨l, ed, hl, wo_none (wo_some (q.imp fun d2 m2 ⟨i, e2, h0, k⟩ => ⟨i, e2, by rw [cutS_pre i h0]; exact k⟩))⟩)
theorem we_slXs (h : We W E te r m fun d m1 => ∃ l : List Nat, d = ts l ∧ l.length ≤ 1000000 ∧ We W E to r m1 fun d2 m2 => ∃ i : Int, d2 = .int i ∧ 0 ≤ i ∧ K (ts (l.drop i.toNat)) m2) : We W E (tSl rSlS te (tPart to) tNoPart) r m K :=
  we_slX (h.imp fun d m1 ⟨l, ed, hl, q⟩ => ⟨l, ed, hl, wo_some (q.imp fun d2 m2 ⟨i, e2, h0, k⟩ => ⟨i, e2, wo_none (by rw [cutS_suf i h0]; exact k)⟩)⟩)
/-! ### methods -/
def rStw : V → List V → Hp → VK → Prop := fun x xs H Q => ∃ a b, x = .str a ∧ xs = [.str b] ∧ Q (.bl (Txt.startswith a b)) H
theorem pe_stw {apos pos : Pos} (ho : PE X o to) (he : PE X e te) (hs : starEach [e] X.env = [(false, eval e X.env)] := by rfl) (hbase : attributeBase o "startswith" X.env (eval o X.env) = eval o X.env := by rfl) (hline : (apos.endLine == pos.line) = true := by rfl) :
    PE X (.Call (.Attribute o "startswith" apos) [e] [] pos) (tM1 rStw to te) :=
  pe_m1 PySem.F.slot_str_startswith PySem.F.type_str_startswith mt_startswith ho he hs hbase hline
theorem starts_S (c : Nat) (l : List Nat) : Txt.startswith (S l) (S [c]) = decide (l.head? = some c) := by
  unfold PySem.Txt.startswith
  rw [StrLaws.subAt_eq, SX.S_len, SX.S_len]
  cases l with
  | nil => simp
  | cons d l =>
    simp
    by_cases h : d = c <;> simp [h]
theorem we_stw (h : We W E to r m fun d m1 => ∃ l : List Nat, d = ts l ∧ We W E te r m1 fun d2 m2 => ∃ c : Nat, d2 = ts [c] ∧ K (.bl (decide (l.head? = some c))) m2) : We W E (tM1 rStw to te) r m K := fun s H Q e z g =>
  h s H _ e z fun d m1 v H1 s1 mu1 r1 ⟨l, ed, q⟩ => by
    subst ed
    cases r1
    refine ⟨⟨_, rfl⟩, q s H1 _ (e.step s1 mu1) (z.step s1) fun d2 m2 v2 H2 s2 mu2 r2 ⟨c, e2, k⟩ => ?_⟩
    subst e2
    cases r2
    exact ⟨S l, S [c], rfl, rfl, by rw [starts_S]; exact g _ m2 _ H2 (s1.trans s2) mu2 (.bl _) k⟩
def rPrt : V → List V → Hp → VK → Prop := fun x xs H Q => ∃ a b, x = .str a ∧ xs = [.str b] ∧ (b.length == 0) = false ∧ a.length ≤ sizeLine ∧
  ∀ p, H p = none → Q (.ref p) (upd H p (.tup [.str (Txt.partition a b).1, .str (Txt.partition a b).2.1, .str (Txt.partition a b).2.2]))
theorem pe_prt {apos pos : Pos} (ho : PE X o to) (he : PE X e te) (hs : starEach [e] X.env = [(false, eval e X.env)] := by rfl) (hbase : attributeBase o "partition" X.env (eval o X.env) = eval o X.env := by rfl) (hline : (apos.endLine == pos.line) = true := by rfl) :
    PE X (.Call (.Attribute o "partition" apos) [e] [] pos) (tM1 rPrt to te) := pe_partition ho he hs hbase hline
/-- what stands ahead of the first c, whether there is one, what stands behind -/
def cutAt (c : Nat) : List Nat → List Nat × List Nat × List Nat
  | [] => ([], [], [])
  | d :: l => if d = c then ([], [c], l) else (d :: (cutAt c l).1, (cutAt c l).2.1, (cutAt c l).2.2)
theorem par_cut (c : Nat) : ∀ (l acc : List Nat), c ∈ l → TL.par [c] acc l = some (acc ++ (cutAt c l).1, (cutAt c l).2.2) ∧ (cutAt c l).2.1 = [c]
  | [], acc, h => by simp at h
  | d :: l, acc, h => by
    by_cases e : d = c
    · subst e
      rw [TL.par_hit (by simp [TL.pre])]
      simp [cutAt]
    · have h' : c ∈ l := by
        rcases List.mem_cons.mp h with z | z
        · exact absurd z.symm e
        · exact z
      have ih := par_cut c l (acc ++ [d]) h'
      rw [TL.par_miss (by simp [TL.pre, e]), ih.1]
      simp [cutAt, e, ih.2]
theorem cut_none (c : Nat) : ∀ l : List Nat, c ∉ l → cutAt c l = (l, [], [])
  | [], _ => rfl
  | d :: l, h => by
    have e : d ≠ c := fun z => h (by rw [z]; exact List.mem_cons_self)
    have h' : c ∉ l := fun z => h (List.mem_cons_of_mem _ z)
    have ih := cut_none c l h'
    simp [cutAt, e, ih]
theorem partition_S (c : Nat) (l : List Nat) : Txt.partition (S l) (S [c]) = (S (cutAt c l).1, S (cutAt c l).2.1, S (cutAt c l).2.2) := by
  by_cases h : c ∈ l
  · have p := par_cut c l [] h
    rw [p.2]
    exact SX.partition_some (by simp) p.1
  · rw [cut_none c l h]
    exact SX.partition_none (by simp) (TL.par_none1 h)
theorem we_prt (h : We W E to r m fun d m1 => ∃ l : List Nat, d = ts l ∧ l.length ≤ 1000000 ∧ We W E te r m1 fun d2 m2 => ∃ c : Nat, d2 = ts [c] ∧ K (.tup [ts (cutAt c l).1, ts (cutAt c l).2.1, ts (cutAt c l).2.2]) m2) : We W E (tM1 rPrt to te) r m K := fun s H Q e z g =>
  h s H _ e z fun d m1 v H1 s1 mu1 r1 ⟨l, ed, hl, q⟩ => by
    subst ed
    cases r1
    refine ⟨⟨_, rfl⟩, q s H1 _ (e.step s1 mu1) (z.step s1) fun d2 m2 v2 H2 s2 mu2 r2 ⟨c, e2, k⟩ => ?_⟩
    subst e2
    cases r2
    refine ⟨S l, S [c], rfl, rfl, by rw [SX.S_len]; rfl, by rw [SX.S_len]; exact Nat.le_trans hl (by decide), fun p hp => ?_⟩
    rw [partition_S]
    exact g _ m2 _ _ ((s1.trans s2).trans (Stp.new hp)) (mu2.new hp) (.tup (new_notin mu2 hp) upd_same (.cons (.str _) (.cons (.str _) (.cons (.str _) .nil)))) k
/-! ### a for over a text's signs -/
theorem wi_str {KI : List D → List Addr → Mu → Prop} (h : We W E te r m fun d m1 => ∃ l : List Nat, d = ts l ∧ KI (l.map fun c => ts [c]) [] m1) : Wi W E (iStr te) r m KI := fun s H R e z g =>
  h s H _ e z fun d m1 v H1 s1 mu1 r1 ⟨l, ed, k⟩ => by
    subst ed
    cases r1
    refine ⟨S l, rfl, g _ _ _ m1 H1 s1 mu1 ⟨fun i m' H' st mu' sb hi => ?_, fun i m' H' st mu' sb v H2 y hi => ?_, fun m' H' st mu' sb => ?_⟩ k⟩
    · rw [List.length_map] at hi
      show i < l.toArray.size
      simpa using hi
    · obtain ⟨rfl, c, hc, rfl⟩ := y
      refine ⟨ts [c], ?_, Stp.refl _ _, mu', .str _⟩
      have hc' : l[i]? = some c := by simpa using hc
      rw [List.getElem?_map, hc']
      rfl
    · show l.toArray.size ≤ _
      simp
/-! ### a class in a variable, called; class methods -/
def tMkV (i : Nat) (C : Addr) (n : Nat) (SS : SpecD) (dd : List D) (W : WX) (t : TA) : TE := fun σ H Q => σ[i]? = some (some (.ref C)) ∧ tMk C n SS dd W t σ H Q
theorem pe_makV {y : Str} (c : Mak (Gx.of X) k x C n SS dd) (hr : Room j X.A) (hk : k + 1 ≤ j) (tk : L2N.Takes X W) (hN : X.N[i]? = some y) (hv : Vis X.env.scope y) (hd : (y == ("__debug__" : Str)) = false) (hcd : (y == ("__classdict__" : Str)) = false) (ha : PA X (e :: es) t)
    (he : starEach (e :: es) X.env = (false, eval e X.env) :: starEach es X.env := by rfl) (hpl : (backTo pos (starEach es X.env)).any (·.1) = false := by rfl) :
    PE X (.Call (.Name y p) (e :: es) [] pos) (tMkV i C n SS dd W t) := by
  obtain ⟨f, ⟨⟨fd, ps, ds, F, b, d⟩, cs⟩, M⟩ := c.ex
  refine ⟨fun pins s σ H Q I h => ?_⟩
  obtain ⟨hs, h⟩ := h
  refine wpAny_Call_Name_kw (thn ((pe_var (pos := p) hN hv hd hcd).run pins s σ H (fun v H1 => v = .ref C ∧ H1 = H) I ⟨.ref C, hs, rfl, rfl⟩) fun u s1 ⟨v, H1, I1, r1, q1⟩ => ?_)
  obtain ⟨rfl, rfl⟩ := q1
  cases r1
  refine PySem.W.callWith_K (h₀ := X.base) I.ok.mod.kin M.kp (thn (ha.run pos pins s1 σ _ _ I1 h) fun us s2 ⟨vs, H2, I2, r, q⟩ => ⟨I2.kIn, ?_⟩) he hpl
  exact run_makeS (E := WE W) M F (hr.mono hk) b d (L2N.passAt tk σ) I2 r q
theorem we_mkV (h1 : r[i]? = some (some (.ref C))) (h : We W E (tMk C n SS dd W t) r m K) : We W E (tMkV i C n SS dd W t) r m K := fun s H Q e z g => by
  obtain ⟨v, h2, h3⟩ := e.env.get h1
  cases h3
  exact ⟨h2, h s H Q e z g⟩
/-- a class method mt of the class at C -/
structure Cme (G : Gx) (k : Nat) (C : Addr) (mt : Str) (n : Nat) (SS : SpecD) : Prop where
  ex : ∃ (f p : Addr), Fnx G k f n SS [] ∧ ClX.CRead G.K C (.type "type") ∧ ClX.CMet G.K C (.type "type") mt p f
def tCm (C : Addr) (n : Nat) (SS : SpecD) (W : WX) (to : TE) (t : TA) : TE := fun σ H Q => to σ H fun x H1 => x = .ref C ∧ t σ H1 fun vs H2 => spD n SS (.ref C :: vs) H2 Q (WE W σ)
theorem pe_cme {pl : Sem Bool} (c : Cme (Gx.of X) k C mt n SS) (hr : Room j X.A) (hk : k ≤ j) (tk : L2N.Takes X W) (he : PE X o to) (ha : PA X (e :: es) t)
    (hst : starEach (e :: es) X.env = (false, eval e X.env) :: starEach es X.env := by rfl) (hpl : (backTo pos (starEach es X.env)).any (·.1) = false := by rfl)
    (ht : eval (.Call (.Attribute o mt apos) (e :: es) [] pos) X.env = (do
      let ov ← eval o X.env
      standAt apos.atName
      let (f, first) ← holding [ov] (getMethod ov mt pl)
      callWith pos f first (backTo pos (starEach (e :: es) X.env)) (backToKw pos (keywordEach [] X.env))) := by rfl) :
    PE X (.Call (.Attribute o mt apos) (e :: es) [] pos) (tCm C n SS W to t) := by
  obtain ⟨f, q, ⟨⟨fd, ps, ds, F, b, d⟩, cs⟩, rd, cm⟩ := c.ex
  refine ⟨fun pins s σ H Q I h => ?_⟩
  refine PySem.W.methodCall_KW (pl := pl) (thn (he.run pins s σ H _ I h) fun u s1 ⟨x, H1, I1, rx, ex, q⟩ => ?_) ht
  subst ex
  obtain rfl : u = Value.ref C := rx
  refine ClX.getmethcm_ok I1 rd cm fun s2 I2 => ?_
  refine ClX.callwith_cm I2 (ClX.base_none I1 (Nat.le_refl _)) cm.fi (thn (ha.run pos _ s2 σ H1 _ I2 q) fun us s3 ⟨vs, H2, I3, rv, q2⟩ => ⟨⟨ClX.pin_at I3, I3.kIn⟩, ?_⟩) hst hpl
  have hd := F.raw b d
  have z := codeAny_mono (hd X.A X.stack s3 H2 (.ref C :: us) (.ref C :: vs) Q (WE W σ) (hr.mono hk) I3.env0 (.cons rfl rv) (by
    show spD n SS ((V.ref C :: vs) ++ []) H2 Q (WE W σ)
    rw [List.append_nil]
    exact q2)) (R' := fun r s' => match r with | .ok (.ret v) => EP X _ σ Q v s' | .ok _ => False | .error e => X.xe e s') fun r s' hq => by
    cases r with
    | error e => exact L2N.passAt tk σ _ H2 s3 e s' I3 hq
    | ok fl =>
      cases fl with
      | ret u => exact I3.after hq
      | next => exact False.elim hq
      | brk => exact False.elim hq
      | cont => exact False.elim hq
  have y : wpAny (model X.prog X.w) X.A (call (.ref _) us) (EP X _ σ Q) X.xe s3 := wpAny_call (PySem.W.method_call (ClX.pin_at I3) z)
  exact thn y fun _ _ y => ClX.unpinE y
theorem we_cme (h : We W E to r m fun d m1 => d = .ref C ∧ Wa W E t r m1 fun ds m2 => ds.length + 1 = n ∧ SS (.ref C :: ds) m2 K fun x m' => E x r m') : We W E (tCm C n SS W to t) r m K := fun s H Q e z g =>
  h s H _ e z fun d m1 v H1 st mu rd ⟨ed, q⟩ => by
    subst ed
    cases rd
    refine ⟨rfl, ?_⟩
    refine q s H1 _ (e.step st mu) (z.step st) fun ds m2 vs H2 st2 mu2 rs q2 => ?_
    exact spD_of (ds := .ref C :: ds) (by rw [List.length_cons]; exact q2.1) ((e.step st mu).step st2 mu2) ((z.step st).step st2) ((g.step st).step st2) (.cons (.ref C) rs) q2.2 fun _ _ q => q
end
end DL
set_option Elab.async false
set_option linter.all false
set_option maxRecDepth 100000
/-! DL31: dicts with texts, numbers or tuples of these as keys. -/
namespace DL
open PySem PySem.Spec L2
open PyProof.Rows hiding St
open SX (S)
/-! ### dicts as lists of trees -/
def kD : Key → D
  | .inl i => .int i
  | .inr x => .str x
theorem kD_rep {M : Addr → Prop} {H : Hp} : ∀ {k : Key} {v : V}, Rep M H (kD k) v → v = kV k
  | .inl _, _, .int _ => rfl
  | .inr _, _, .str _ => rfl
theorem kDs_rep {M : Addr → Prop} {H : Hp} : ∀ {ks : List Key} {vs : List V}, Reps M H (ks.map kD) vs → vs = ks.map kV
  | [], _, .nil => rfl
  | k :: ks, _, .cons r t => by rw [kD_rep r, kDs_rep t]; rfl
section
variable {κ : Type} [DecidableEq κ]
def valD (kvs : List (κ × D)) (k : κ) : Option D := (kvs.find? fun kv => decide (kv.1 = k)).map (·.2)
def putD (kvs : List (κ × D)) (k : κ) (d : D) : List (κ × D) :=
  if (kvs.any fun kv => decide (kv.1 = k)) = true then kvs.map (fun kv => if kv.1 = k then (kv.1, d) else kv) else kvs ++ [(k, d)]
theorem RepT.val {M : Addr → Prop} {H : Hp} (k : κ) : ∀ {kvs : List (κ × D)} {kws : List (κ × V)}, RepT M H kvs kws →
    (valD kvs k = none ∧ valV kws k = none) ∨ ∃ d v, valD kvs k = some d ∧ valV kws k = some v ∧ Rep M H d v
  | _, _, .nil => .inl ⟨rfl, rfl⟩
  | _, _, .cons (k := k') (d := d) (v := v) (ds := ds) (vs := vs) r t => by
    by_cases e : k' = k
    · refine .inr ⟨d, v, ?_, ?_, r⟩
      · simp [valD, List.find?_cons, e]
      · simp [valV, List.find?_cons, e]
    · have e1 : valD ((k', d) :: ds) k = valD ds k := by simp [valD, List.find?_cons, e]
      have e2 : valV ((k', v) :: vs) k = valV vs k := by simp [valV, List.find?_cons, e]
      rw [e1, e2]
      exact RepT.val k t
theorem RepT.any {M : Addr → Prop} {H : Hp} (k : κ) : ∀ {kvs : List (κ × D)} {kws : List (κ × V)}, RepT M H kvs kws → (kvs.any fun kv => decide (kv.1 = k)) = (kws.any fun kv => decide (kv.1 = k))
  | _, _, .nil => rfl
  | _, _, .cons r t => by simp only [List.any_cons, RepT.any k t]
theorem RepT.repl {M : Addr → Prop} {H : Hp} (k : κ) {d : D} {v : V} (r : Rep M H d v) : ∀ {kvs : List (κ × D)} {kws : List (κ × V)}, RepT M H kvs kws →
    RepT M H (kvs.map (fun kv => if kv.1 = k then (kv.1, d) else kv)) (kws.map (fun kv => if kv.1 = k then (kv.1, v) else kv))
  | _, _, .nil => .nil
  | _, _, .cons (k := k') r' t => by
    rw [List.map_cons, List.map_cons]
    by_cases e : k' = k
    · rw [if_pos e, if_pos e]
      exact .cons r (RepT.repl k r t)
    · rw [if_neg e, if_neg e]
      exact .cons r' (RepT.repl k r t)
theorem RepT.snoc {M : Addr → Prop} {H : Hp} {k : κ} {d : D} {v : V} (r : Rep M H d v) : ∀ {kvs : List (κ × D)} {kws : List (κ × V)}, RepT M H kvs kws → RepT M H (kvs ++ [(k, d)]) (kws ++ [(k, v)])
  | _, _, .nil => .cons r .nil
  | _, _, .cons r' t => .cons r' (RepT.snoc r t)
theorem RepT.put {M : Addr → Prop} {H : Hp} {kvs : List (κ × D)} {kws : List (κ × V)} (q : RepT M H kvs kws) (k : κ) {d : D} {v : V} (r : Rep M H d v) : RepT M H (putD kvs k d) (putK kws k v) := by
  unfold putD putK
  rw [q.any k]
  split
  · exact q.repl k r
  · exact q.snoc r
theorem RepT.length {κ : Type} {M : Addr → Prop} {H : Hp} : ∀ {kvs : List (κ × D)} {kws : List (κ × V)}, RepT M H kvs kws → kvs.length = kws.length
  | _, _, .nil => rfl
  | _, _, .cons r t => by rw [List.length_cons, List.length_cons, RepT.length t]
theorem valD_any (kvs : List (κ × D)) (k : κ) : (kvs.any fun kv => decide (kv.1 = k)) = (valD kvs k).isSome := by
  induction kvs with
  | nil => rfl
  | cons p kvs ih =>
    by_cases e : p.1 = k
    · simp [valD, e]
    · rw [List.any_cons, decide_eq_false e, Bool.false_or, ih]
      simp [valD, List.find?_cons, e]
theorem putD_new {kvs : List (κ × D)} {k : κ} (d : D) (h : valD kvs k = none) : putD kvs k d = kvs ++ [(k, d)] := by
  unfold putD
  rw [valD_any, h]
  rfl
end
theorem RepK.t {M : Addr → Prop} {H : Hp} : ∀ {kvs : List (Key × D)} {kws : List (Key × V)}, RepK M H kvs kws → RepT M H kvs kws
  | _, _, .nil => .nil
  | _, _, .cons r t => .cons r (RepK.t t)
theorem RepT.k {M : Addr → Prop} {H : Hp} : ∀ {kvs : List (Key × D)} {kws : List (Key × V)}, RepT M H kvs kws → RepK M H kvs kws
  | _, _, .nil => .nil
  | _, _, .cons r t => .cons r (RepT.k t)
/-- where a dict stands, a key, what it holds there -/
inductive GetD : Mu → D → D → Option D → Prop
  | k {m : Mu} {q : Addr} {kvs : List (Key × D)} {k : Key} (h : At m q (.dic kvs)) : GetD m (.ref q) (kD k) (valD kvs k)
  | f {m : Mu} {kvs : List (Key × D)} {k : Key} : GetD m (.dic kvs) (kD k) (valD kvs k)
  | t {m : Mu} {q : Addr} {kvs : List (List Key × D)} {k : List Key} (h : At m q (.dit kvs)) : GetD m (.ref q) (.tup (k.map kD)) (valD kvs k)
theorem GetD.get {m : Mu} {x y : D} {o : Option D} {H : Hp} {vx vy : V} (g : GetD m x y o) (mu : MutR m H) (rx : Rep (dom m) H x vx) (ry : Rep (dom m) H y vy) :
    ∃ a ov, vx = .ref a ∧ DGet H a vy ov ∧ ov.isSome = o.isSome ∧ ∀ d, o = some d → ∃ v, ov = some v ∧ Rep (dom m) H d v := by
  have fin : ∀ {κ : Type} [DecidableEq κ] {kvs : List (κ × D)} {kws : List (κ × V)} (k : κ), RepT (dom m) H kvs kws → (valV kws k).isSome = (valD kvs k).isSome ∧ ∀ d, valD kvs k = some d → ∃ v, valV kws k = some v ∧ Rep (dom m) H d v := by
    intro κ _ kvs kws k q
    rcases q.val k with ⟨e1, e2⟩ | ⟨d, v, e1, e2, r⟩
    · rw [e1, e2]
      exact ⟨rfl, fun d z => nomatch z⟩
    · rw [e1, e2]
      refine ⟨rfl, fun d' z => ?_⟩
      injection z with z
      subst z
      exact ⟨v, rfl, r⟩
  cases g with
  | @k q kvs k h =>
    cases rx
    have q := h.rep mu
    cases q with
    | dic hh rk =>
      have z := fin k rk.t
      exact ⟨_, _, rfl, by rw [kD_rep ry]; exact DGet.k hh, z.1, z.2⟩
  | @f kvs k =>
    cases rx with
    | dic mm hh rk =>
      have z := fin k rk.t
      exact ⟨_, _, rfl, by rw [kD_rep ry]; exact DGet.k hh, z.1, z.2⟩
  | @t q kvs k h =>
    cases rx
    cases ry with
    | @tup b _ vs mm hb rs =>
      have q := h.rep mu
      cases q with
      | dit hh rk =>
        have z := fin k rk
        have e := kDs_rep rs
        subst e
        exact ⟨_, _, rfl, DGet.t hh hb, z.1, z.2⟩
/-- a[y] = d -/
inductive PutD : Mu → D → D → D → Mu → Prop
  | k {m m' : Mu} {q : Addr} {kvs : List (Key × D)} {k : Key} {d : D} (h : At m q (.dic kvs)) (hl : kvs.length < 1000000) (hp : Put m q (.dic (putD kvs k d)) m') : PutD m (.ref q) (kD k) d m'
  | t {m m' : Mu} {q : Addr} {kvs : List (List Key × D)} {k : List Key} {d : D} (h : At m q (.dit kvs)) (hl : kvs.length < 1000000) (hp : Put m q (.dit (putD kvs k d)) m') : PutD m (.ref q) (.tup (k.map kD)) d m'
theorem PutD.put {m m' : Mu} {x y d : D} {H : Hp} {vx vy v : V} (g : PutD m x y d m') (mu : MutR m H) (rx : Rep (dom m) H x vx) (ry : Rep (dom m) H y vy) (rd : Rep (dom m) H d v) :
    ∃ a H', vx = .ref a ∧ DPut H a vy v H' ∧ Stp (dom m) H (dom m') H' ∧ MutR m' H' := by
  cases g with
  | @k _ q kvs k _ h hl hp =>
    cases rx
    have z := h.rep mu
    cases z with
    | dic hh rk =>
      have st : ∀ o, Stp (dom m) H (dom m') (upd H q o) := fun o => hp.stp
      refine ⟨q, _, rfl, by rw [kD_rep ry]; exact DPut.k hh (Nat.lt_of_lt_of_le (by rw [← rk.t.length]; exact hl) (by decide : 1000000 ≤ sizeLine)), st _, hp.mut mu (.dic upd_same (RepT.k ((rk.t.put k rd).mono (st _))))⟩
  | @t _ q kvs k _ h hl hp =>
    cases rx
    cases ry with
    | @tup b _ vs mm hb rs =>
      have z := h.rep mu
      cases z with
      | dit hh rk =>
        have st : ∀ o, Stp (dom m) H (dom m') (upd H q o) := fun o => hp.stp
        have e := kDs_rep rs
        subst e
        exact ⟨q, _, rfl, DPut.t hh hb (Nat.lt_of_lt_of_le (by rw [← rk.length]; exact hl) (by decide : 1000000 ≤ sizeLine)), st _, hp.mut mu (.dit upd_same ((rk.put k rd).mono (st _)))⟩
section
variable {X : Cx} {W : WX} {E : ET} {r : Rho} {m : Mu} {K : KT} {G : Gx} {j k : Nat} {te to td ty tv : TE} {P : DEnds}
theorem roomD {j : Nat} {A : Around} (hr : Room j A) : A.units + 1 < cLine := by have := hr.units; omega
def oInDc : O2 := fun y x _ H Q => ∃ a o, x = .ref a ∧ DGet H a y o ∧ Q (.bl o.isSome) H
theorem os_inDc (hr : Room j X.A) : OpS X (compareOp .In) oInDc := by
  intro pins s σ H y x v u Q I ry rx h
  obtain ⟨a, o, rfl, g, q⟩ := h
  obtain rfl : u = Value.ref a := rx
  exact d_in (roomD hr) I g ry fun s' I' => ⟨.bl o.isSome, H, I', rfl, q⟩
theorem w2_inDc {x y : D} {o : Option D} (g : GetD m x y o) (h : K (.bl o.isSome) m) : W2 W E oInDc y x r m K := fun s H Q vy vx e z ry rx gg => by
  obtain ⟨a, ov, rfl, dg, es, _⟩ := g.get e.mu rx ry
  exact ⟨a, ov, rfl, dg, by rw [es]; exact gg _ m _ H (Stp.refl _ _) e.mu (.bl _) h⟩
theorem we_dget (h : We W E td r m fun x m1 => We W E ty r m1 fun y m2 => ∃ d, GetD m2 x y (some d) ∧ K d m2) : We W E (tDGet td ty) r m K := fun s H Q e z g =>
  h s H _ e z fun x m1 vx H1 s1 mu1 rx q => q s H1 _ (e.step s1 mu1) (z.step s1) fun y m2 vy H2 s2 mu2 ry ⟨d, gd, k⟩ => by
    obtain ⟨a, ov, rfl, dg, _, hv⟩ := gd.get mu2 (rx.mono s2) ry
    obtain ⟨v, rfl, rv⟩ := hv d rfl
    exact ⟨a, v, rfl, dg, g _ m2 _ H2 (s1.trans s2) mu2 rv k⟩
theorem ws_dput (h : We W E tv r m fun d m1 => We W E td r m1 fun x m2 => We W E ty r m2 fun y m3 => ∃ m4, PutD m3 x y d m4 ∧ P.nx r m4) : Ws W E (sDPut td ty tv) r m P := fun s H De e z g =>
  h s H _ e z fun d m1 v H1 s1 mu1 rd q => q s H1 _ (e.step s1 mu1) (z.step s1) fun x m2 vx H2 s2 mu2 rx q2 => q2 s H2 _ ((e.step s1 mu1).step s2 mu2) ((z.step s1).step s2) fun y m3 vy H3 s3 mu3 ry ⟨m4, pd, k⟩ => by
    obtain ⟨a, H4, rfl, dp, st, mu4⟩ := pd.put mu3 (rx.mono s3) ry ((rd.mono s2).mono s3)
    exact ⟨a, H4, rfl, dp, g.nx r m4 s H4 ((s1.trans s2).trans (s3.trans st)) ((((e.step s1 mu1).step s2 mu2).step s3 mu3).step st mu4) k⟩
/-- {} -/
theorem we_dnewK (h : ∀ p, ¬ dom m p → K (.ref p) ((p, .dic []) :: m)) : We W E tDNewK r m K := fun s H Q e z g p hp =>
  g _ _ _ _ (Stp.newM (x := .dic []) hp) (e.mu.newM hp (.dic upd_same .nil)) (.ref p) (h p (new_notin e.mu hp))
theorem we_dnewT (h : ∀ p, ¬ dom m p → K (.ref p) ((p, .dit []) :: m)) : We W E tDNewT r m K := fun s H Q e z g p hp =>
  g _ _ _ _ (Stp.newM (x := .dit []) hp) (e.mu.newM hp (.dit upd_same .nil)) (.ref p) (h p (new_notin e.mu hp))
/-- a dict that is not written any more -/
theorem Ws.freezeD {t : TS} {i : Nat} {p : Addr} {kvs : List (Key × D)} (hr : r[i]? = some (some (.ref p))) (h : Ws W E t (r.set i (some (.dic kvs))) m P) : Ws W E t r ((p, .dic kvs) :: m) P := fun s H De e z g => by
  have mu := e.mu
  have ls : Stp (dom ((p, MO.dic kvs) :: m)) H (dom m) H := Stp.less fun a z => dom_cons.mpr (.inr z)
  have nd := mu.notin
  have at1 := (At.head (m := m) (p := p) (o := .dic kvs)).rep mu
  cases at1 with
  | dic hh rf =>
    have e2 : EnvR (r.set i (some (.dic kvs))) m s H := by
      have e1 := e.env.mono ls
      obtain ⟨y, hy, ry⟩ := e1.get hr
      cases ry
      have q := e1.set (.some (.dic nd hh (rf.mono ls))) i
      rw [set_same hy] at q
      exact ⟨q, mu.drop⟩
    exact h s H De e2 (z.step ls) ⟨fun r' m' s' H' a b k => g.nx r' m' s' H' (ls.trans a) b k, fun d m' v H' a b c k => g.rt d m' v H' (ls.trans a) b c k, fun r' m' s' H' a b k => g.bk r' m' s' H' (ls.trans a) b k, fun r' m' s' H' a b k => g.ct r' m' s' H' (ls.trans a) b k⟩
end
end DL
set_option Elab.async false
set_option linter.all false
set_option maxRecDepth 100000
/-! DL32: len of an own instance, lcm, enumerate. -/
namespace DL
open PySem PySem.Spec L2
open PyProof.Rows hiding St
section
variable {X : Cx} {W : WX} {j k : Nat}
def cLenO (G : Gx) (j : Nat) (W : WX) : OC := fun xs σ H Q => rLenD G.K xs H Q ∨ ∃ (a C dx : Addr) (fs : List (Str × V)) (k : Nat) (S : SpecD), xs = [.ref a] ∧ H a = some (.ins C dx fs) ∧ k + 1 ≤ j ∧ Opr G k C "__len__" 1 S ∧
  spD 1 S xs H (fun v H' => ∃ n : Nat, v = .int (n : Int) ∧ n ≤ 1000000 ∧ Q v H') (WE W σ)
theorem cs_lenO (hr : Room j X.A) (tk : L2N.Takes X W) : CallS X (.builtin "len") (cLenO (Gx.of X) j W) := by
  intro pins s σ H xs us Q I ru h
  rcases h with h | h
  · exact cs_len pins s σ H xs us Q I ru h
  · obtain ⟨a, C, dx, fs, k, S, rfl, ha, hk, O, q⟩ := h
    cases ru with
    | cons r t =>
      cases t
      obtain rfl : _ = Value.ref a := r
      obtain ⟨f, ⟨⟨fd, ps, ds, F, bd, d⟩, cs⟩, h1, h2⟩ := O.ex
      obtain ⟨od, J⟩ := inst_of I ha
      have run := run_in (Ex := WE W) (us := [.ref a]) (vs := [.ref a]) F (hr.mono hk) bd d (L2N.passAt tk σ) I (.cons rfl .nil) q
      refine Calls.call_function_entry kind_len plain_len entry_len (args_len1 _) ?_
      unfold Builtin.«len»
      refine wpAny_bind (m := oneArg "len" _) (wpAny_pure ?_)
      refine wpAny_bind (m := callSpecial? (.ref a) (Str.ofString "__len__")) (PySem.W.special_fn I.kIn J h1 (beq_iff_eq.mp h2) ?_)
      refine wpAny_mono run (fun r s' hq => ?_) fun _ _ z => z
      obtain ⟨v, H', I', rv, n, rfl, hn, q'⟩ := hq
      obtain ⟨t, rfl⟩ := rv
      have hn0 : ¬ ((n : Nat) : Int) < 0 := by omega
      have hn1 : ¬ ((n : Nat) : Int) ≥ 2 ^ 63 := by omega
      have fin : ∀ k, EP X pins σ Q (Value.int (n : Int) k) { s' with toks := k + 1 } := fun k => ⟨.int (n : Int), H', I'.tok _, ⟨_, rfl⟩, q'⟩
      obtain ⟨hp, g, dd, tk', os⟩ := s'
      repeat (any_goals (first
        | assumption
        | (with_reducible refine wpAny_ite_false (decide_eq_false hn0) ?_)
        | (with_reducible refine wpAny_ite_false (decide_eq_false hn1) ?_)
        | wp_step))
      all_goals first | exact fin _ | exact ⟨_, rfl, fin _⟩
def rLcm : List V → Hp → VK → Prop := fun vs H Q => ∃ a b : Int, vs = [.int a, .int b] ∧ a.natAbs.log2 < 12000 ∧ b.natAbs.log2 < 12000 ∧ Q (.int ((Nat.lcm a.natAbs b.natAbs : Nat) : Int)) H
theorem log_lt {n k : Nat} (h : n.log2 < k) : n < 2 ^ k := by
  by_cases h0 : n = 0
  · rw [h0]
    exact Nat.two_pow_pos k
  · exact (Nat.log2_lt h0).mp h
theorem cr_lcm : CallR X (.builtin "math.lcm") rLcm := by
  intro pins s σ H vs us Q I r h
  obtain ⟨a, b, rfl, ha, hb, q⟩ := h
  obtain ⟨t, u, rfl⟩ := Vals.int2 r
  have la := log_lt ha
  have lb := log_lt hb
  have hm : ∀ x y : Nat, x < 2 ^ 12000 → y < 2 ^ 12000 → (max x y).log2 ≤ 11999 := fun x y hx hy => PySem.W.mg_log (by
    show max x y < 2 ^ 12000
    generalize 2 ^ 12000 = P at *
    omega)
  have l1 : (1 : Nat) < 2 ^ 12000 := Nat.lt_of_lt_of_le (by decide : 1 < 2 ^ 1) (Nat.pow_le_pow_right (by decide) (by decide))
  have h0 := hm 1 a.natAbs l1 la
  have h1 := hm a.natAbs b.natAbs la lb
  have hl : (a.natAbs.lcm b.natAbs).log2 < bitsLine := PySem.W.mc_size (k := 400) (Nat.le_trans (PySem.W.mc_lcm_le _ _) (Nat.le_trans (Nat.mul_le_mul (Nat.le_of_lt la) (Nat.le_of_lt lb)) (by rw [← Nat.pow_add]; exact Nat.pow_le_pow_right (by decide) (by decide)))) (by decide)
  refine call_function_meets PySem.W.MGF.kind_lcm PySem.W.MGF.plain_lcm PySem.W.MGF.entry_lcm (PySem.W.MGF.args_lcm _ _) (PySem.W.mg_run_lcm a t b u (by omega) (by omega) (by rw [PySem.W.mc_lcm_one]; exact hl)).meets ?_
  rw [PySem.W.mc_lcm_one]
  exact ⟨.int _, H, I.tok _, ⟨_, rfl⟩, q⟩
def cLcm : OC := fun xs _ H Q => rLcm xs H Q
theorem cs_lcm : CallS X (.builtin "math.lcm") cLcm := CallS.of cr_lcm
end
section
variable {W : WX} {E : ET} {r : Rho} {m : Mu} {K : KT} {G : Gx} {j k : Nat} {C : Addr} {ns : List Str} {ds : List D} {S : SpecD} {d : D} {te : TE} {ta : TA} {KI : List D → List Addr → Mu → Prop}
theorem wc_lenOI {d : D} {n : Nat} (l : LenD d m n) (h : K (.int (n : Int)) m) : Wc W E (cLenO G j W) [d] r m K := fun s H Q vs e z rs g => .inl (wc_len l h s H Q vs e z rs g)
theorem wc_lenOS {l : List Nat} (hl : l.length ≤ 1000000) (h : K (.int (l.length : Nat)) m) : Wc W E (cLenO G j W) [ts l] r m K := fun s H Q vs e z rs g => .inl (wc_lenS hl h s H Q vs e z rs g)
theorem wc_lenO (O : Opr G k C "__len__" 1 S) (hk : k + 1 ≤ j) (fi : FldD d m C ns ds) (h : S [d] m (fun x m' => ∃ n : Nat, x = .int (n : Int) ∧ n ≤ 1000000 ∧ K x m') fun x m' => E x r m') : Wc W E (cLenO G j W) [d] r m K := fun s H Q vs e z rs g => by
  cases rs with
  | cons rv t =>
    cases t
    obtain ⟨p, dx, gs, rfl, hp, _⟩ := fi.look e.mu rv
    refine .inr ⟨p, C, dx, gs, k, S, rfl, hp, hk, O, spD_of rfl e z (fun d m' v H' st mu rd ⟨n, ed, hn, kk⟩ => ?_) (.cons rv .nil) h fun _ _ q => q⟩
    have q := g d m' v H' st mu rd kk
    subst ed
    cases rd
    exact ⟨n, rfl, hn, q⟩
theorem wc_lcm {i k : Int} (h1 : Bd 12000 i) (h2 : Bd 12000 k) (h : K (.int ((Nat.lcm i.natAbs k.natAbs : Nat) : Int)) m) : Wc W E cLcm [.int i, .int k] r m K := fun s H Q vs e z rs g => by
  cases rs with
  | cons a t =>
    cases t with
    | cons b t =>
      cases t
      cases a
      cases b
      have lg : ∀ {x : Int}, Bd 12000 x → x.natAbs.log2 < 12000 := fun {x} hx => by
        by_cases h0 : x.natAbs = 0
        · rw [h0, Nat.log2_zero]
          decide
        · exact (Nat.log2_lt h0).mpr hx
      exact ⟨i, k, rfl, lg h1, lg h2, g _ m _ H (Stp.refl _ _) e.mu (.int _) h⟩
/-! ### enumerate -/
def enD (xs : List D) : List D := xs.zipIdx.map fun p => .tup [.int (p.2 : Nat), p.1]
theorem enD_len {xs : List D} : (enD xs).length = xs.length := by simp [enD]
theorem enD_get {xs : List D} {i : Nat} {x : D} (h : xs[i]? = some x) : (enD xs)[i]? = some (.tup [.int (i : Nat), x]) := by simp [enD, List.getElem?_zipIdx, h]
theorem wi_enum (h : Wa W E ta r m fun ds m1 => ∃ xs, ds = [.lst xs] ∧ KI (enD xs) [] m1) : Wi W E (iEnum G.K ta) r m KI := fun s H R e z g =>
  h s H _ e z fun ds m1 vs H1 s1 mu1 r1 ⟨xs, hd, k⟩ => by
    subst hd
    cases r1 with
    | cons ra t =>
      cases t
      cases ra with
      | @lst a _ vs mm hh rs =>
        refine ⟨a, vs, rfl, rd_l hh, g _ (enD xs) [] m1 H1 s1 mu1 ⟨fun i m' H' st mu' su hi => ?_, fun i m' H' st mu' su v H2 yl hi => ?_, fun m' H' st mu' su => ?_⟩ k⟩
        · rw [enD_len] at hi
          obtain ⟨v, hv⟩ := rs.lt hi
          exact ⟨vs, v, rd_l (st.rd mm hh).1, hv⟩
        · obtain ⟨T, x, rfl, hT, rfl, hx⟩ := yl
          obtain ⟨dx, h1, h2⟩ := (rs.mono st).getV (hx vs (rd_l (st.rd mm hh).1))
          have st2 : Stp (dom m') H' (dom m') (upd H' T (.tup [.int (i : Nat), x])) := Stp.new hT
          exact ⟨_, enD_get h1, st2, mu'.new hT, .tup (new_notin mu' hT) upd_same (.cons (.int _) (.cons (h2.mono st2) .nil))⟩
        · exact ⟨vs, rd_l (st.rd mm hh).1, by rw [enD_len, rs.length]; exact Nat.le_refl _⟩
end
end DL
set_option Elab.async false
set_option linter.all false
set_option maxRecDepth 100000
/-! DL33: the values of a dict with tuple keys, gone over. -/
namespace DL
open PySem PySem.Spec L2
open PyProof.Rows hiding St
/-- the values of the locked dict at d -/
def Itv (d : Addr) (o : Obj) (kvs : List (List Key × V)) : It :=
  ⟨fun i H => H d = some (.frz o (.dT kvs)) ∧ i < kvs.length, fun i H x H' => H' = H ∧ ∃ k, kvs[i]? = some (k, x), fun i H => H d = some (.frz o (.dT kvs)) ∧ kvs.length ≤ i⟩
theorem frzTV {X : Cx} {pins : List (Addr × Obj)} {σ : L2.St} {H : Hp} {s : Shared} {d : Addr} {o : Obj} {kvs : List (List Key × V)} (I : Inv X pins σ H s) (h : H d = some (.frz o (.dT kvs))) :
    (d == sysModules) = false ∧ s.heap.get? d = some o ∧ o.ExactDict ∧ ∃ (es : Array DictEntry) (ep : Nat), o.data = .dict es ep ∧ es.size = kvs.length ∧
      ∀ (i : Nat) (k : List Key) (v : V), kvs[i]? = some (k, v) → ∃ (en : DictEntry), es[i]? = some en ∧ RelV v en.val := by
  obtain ⟨hd, z, hs, xs, pr, o', es, ep, ho, hx, hdt, he, _⟩ := I.hok d _ h
  rw [hd] at ho
  cases ho
  refine ⟨hs, hd, hx, es, ep, hdt, ?_, fun i k v e => ?_⟩
  · have l1 := congrArg List.length he
    rw [Array.length_toList, List.length_map] at l1
    have l2 : kvs.length = xs.length := Paired.length pr
    omega
  · obtain ⟨b, hb, e1, e2, e3⟩ := paired_get pr e
    refine ⟨entryOfKey (tupleKind (mixKind X.prog X.w)) b, ?_, e3⟩
    rw [← Array.getElem?_toList, he, List.getElem?_map, hb]
    rfl
theorem turn_valsT {P : Program} {w : World} {K : PySem.W.Frag} {tg : Expr} {d : Addr} {o : Obj} {es : Array DictEntry} {ep : Nat} {kvs : List (List Key × V)} (it : Addr) (hod : o.data = .dict es ep) :
    Turn P w K tg (Itv d o kvs) [it] it (fun i h => h.IsValIter it d i kvs.length ep) where
  mem := by simp
  obj := fun i h st b hb => by
    have e : b = it := by simpa using hb
    subst e
    obtain ⟨oi, e, c, dd⟩ := st
    exact ⟨oi, e, fun v z => by rw [dd] at z; cases z⟩
  keep := fun i h h' st k => st.at fun oi e => k it (by simp) oi e
  item := by
    intro X hP hw hK hc i pins s σ H E I hf st hg
    subst hP hw hK
    obtain ⟨hd, hi⟩ := hg
    obtain ⟨f0, f1, f2, f3, f4, f5⟩ := hf it (by simp)
    obtain ⟨hs, hgd, hx, es', ep', hdt, hsz, ent⟩ := frzTV I hd
    obtain ⟨rfl, rfl⟩ := dict_ep hod hdt
    obtain ⟨⟨k, v⟩, hkv⟩ : ∃ p, kvs[i]? = some p := ⟨kvs[i], List.getElem?_eq_getElem hi⟩
    obtain ⟨en, hen, rv⟩ := ent i k v hkv
    rw [← hsz] at st
    have hlt : i < es'.size := by omega
    have hv : es'[i] = en := by
      rw [Array.getElem?_eq_getElem hlt] at hen
      injection hen
    refine wpAny_pyNext_values_item_raw st ⟨o, hgd, hx, hdt⟩ hlt fun h' st' sb => ?_
    have I1 : Inv X pins σ H { s with heap := h' } := I.turned (t' := s.toks) (fun b ob hb e => (sb.2 b hb).trans e) f0 f1 f3 f4 f5
    obtain ⟨oi, e, c, dd⟩ := id st'
    refine ⟨es'[i].val, rfl, go_of (s := { s with heap := h' }) e c dd (by decide) ⟨v, H, I1, by rw [hv]; exact rv, ⟨rfl, k, hkv⟩, ?_, fun b hb => (hf b hb).1⟩⟩
    show h'.IsValIter it d (i + 1) kvs.length _
    rw [← hsz]
    exact st'
  done := by
    intro X hP hw hK hc i pins s σ H E I hf st hg
    subst hP hw hK
    obtain ⟨hd, hi⟩ := hg
    obtain ⟨f0, f1, f2, f3, f4, f5⟩ := hf it (by simp)
    obtain ⟨hs, hgd, hx, es', ep', hdt, hsz, ent⟩ := frzTV I hd
    obtain ⟨rfl, rfl⟩ := dict_ep hod hdt
    rw [← hsz] at st
    exact wpAny_pyNext_values_end_raw (I.ok.hd hc) st ⟨o, hgd, hx, hdt⟩ (by omega) fun h' eb => ⟨rfl, I.turned (t' := s.toks) (fun b ob hb e => eb b ob hb e) f0 f1 f3 f4 f5⟩
  self := fun A i s Q E st h => wpAny_pyIter_valiter st h
def iValsT (td : TE) : TI := fun σ H R => td σ H fun x H1 => ∃ d o kvs, x = .ref d ∧ H1 d = some (.frz o (.dT kvs)) ∧ R (Itv d o kvs) H1
section
variable {X : Cx} {tg e : Expr} {td : TE} {apos cpos : Pos}
theorem pi_valuesT (he : PE X e td) (hbase : attributeBase e "values" X.env (eval e X.env) = eval e X.env := by rfl) (hline : (apos.endLine == cpos.line) = true := by rfl) : PI X tg (.Call (.Attribute e "values" apos) [] [] cpos) (iValsT td) := by
  refine ⟨fun pins s σ H R I h => ?_⟩
  refine wpAny_Call_method (T := "dict") (id := "dict.values") hbase rfl hline PySem.F.plainAttrs_dict PySem.F.slot_dict_values PySem.F.type_dict_values (thn (he.run pins s σ H _ I h) fun u s1 ⟨x, H1, I1, rx, d, o, kvs, ex, hd, q⟩ => ?_)
  subst ex
  obtain rfl : u = Value.ref d := rx
  obtain ⟨hs, hgd, hx, es, ep, hdt, hsz, ent⟩ := frzTV I1 hd
  have hm : s1.heap.DictRaw d es ep := ⟨o, hgd, hx, hdt⟩
  refine ⟨hm.typeIs, (fun a' ea => ?_), ?_⟩
  · cases ea
    exact ⟨o, hgd, hx.2.1⟩
  have I2 : Inv X pins σ H1 { s1 with heap := s1.heap.push { cls := .type "dict_values", data := .fields #[.ref d] } } := I1.kept (t' := s1.toks) fun b ob q => Heap.get?_push_of_some _ q
  have fin : wpAny (model X.prog X.w) X.A (pyIter (.ref s1.heap.objs.size)) (PIE X pins σ tg R) X.xe { s1 with heap := s1.heap.push { cls := .type "dict_values", data := .fields #[.ref d] } } := by
    refine wpAny_pyIter_values_raw (d := d) (es := es) (ep := ep) ⟨_, Heap.get?_push_size _ rfl, rfl, rfl⟩ (hm.at fun o e => Heap.get?_push_of_some _ e) (pi_one (tk := s1.toks) I2 _ (turn_valsT _ hdt) ⟨_, Heap.get?_push_size _ rfl, rfl, ?_⟩ q)
    rw [hsz] <;> rfl
  show wpAny _ _ (callWith cpos (.builtin "dict.values") [.ref d] [] []) _ X.xe s1
  exact method_meetsIn PySem.F.slot_dict_values PySem.F.entry_dict_values rfl (PySem.evalArgs_none ⟨rfl, hm.typeIs, PySem.F.args_dict_values_1 _, _, meets_dict_values_raw d hs, ⟨es, ep, hm⟩, fin⟩)
end
section
variable {W : WX} {E : ET} {r : Rho} {m : Mu} {K : KT} {te td : TE} {KI : List D → List Addr → Mu → Prop}
theorem RepT.get {κ : Type} {M : Addr → Prop} {H : Hp} : ∀ {kvs : List (κ × D)} {kws : List (κ × V)}, RepT M H kvs kws → ∀ {i : Nat} {k : κ} {v : V}, kws[i]? = some (k, v) → ∃ d, (kvs.map (·.2))[i]? = some d ∧ Rep M H d v
  | _, _, .nil, i, k, v, h => by simp at h
  | _, _, .cons r t, 0, k, v, h => by
    simp at h
    obtain ⟨rfl, rfl⟩ := h
    exact ⟨_, rfl, r⟩
  | _, _, .cons r t, i + 1, k, v, h => by
    simp only [List.getElem?_cons_succ] at h
    simp only [List.map_cons, List.getElem?_cons_succ]
    exact RepT.get t h
theorem wi_valsT (h : We W E td r m fun d m1 => ∃ q o kws kvs, d = .ref q ∧ At m1 q (.lkd o kws kvs) ∧ KI (kvs.map (·.2)) [q] m1) : Wi W E (iValsT td) r m KI := fun s H R e z g =>
  h s H _ e z fun d m1 v H1 s1 mu1 r1 ⟨q, o, kws, kvs, ed, ha, k⟩ => by
    subst ed
    cases r1
    have lk : ∀ {m' : Mu} {H' : Hp}, MutR m' H' → Sub [q] m1 m' → H' q = some (.frz o (.dT kws)) ∧ RepT (dom m') H' kvs kws := fun mu su => by
      have z := (su q (List.mem_cons_self ..) _ ha).rep mu
      cases z with
      | lkd hh rk => exact ⟨hh, rk⟩
    have l0 := lk mu1 Sub.refl
    have hl := l0.2.length
    refine ⟨q, o, kws, rfl, l0.1, g _ _ [q] m1 H1 s1 mu1 ⟨fun i m' H' st mu' su hi => ?_, fun i m' H' st mu' su v H2 yl hi => ?_, fun m' H' st mu' su => ?_⟩ k⟩
    · rw [List.length_map] at hi
      exact ⟨(lk mu' su).1, by omega⟩
    · obtain ⟨rfl, k, hk⟩ := yl
      obtain ⟨d, h1, h2⟩ := (lk mu' su).2.get hk
      exact ⟨d, h1, Stp.refl _ _, mu', h2⟩
    · exact ⟨(lk mu' su).1, by rw [List.length_map]; omega⟩
theorem we_lock {q : Addr} {kvs : List (List Key × D)} {m0 : Mu} (h : ∀ o kws, We W E te r ((q, .lkd o kws kvs) :: m0) fun d m' => ∃ m1 kvs', m' = (q, .lkd o kws kvs') :: m1 ∧ K d ((q, .dit kvs') :: m1)) : We W E (tLockE te) r ((q, .dit kvs) :: m0) K := fun s H Q e z g => by
  have at1 := (At.head (m := m0) (p := q) (o := .dit kvs)).rep e.mu
  cases at1 with
  | @dit _ kws hh rk =>
    refine ⟨q, _, hh, trivial, fun od => ?_⟩
    have st : ∀ o, Stp (dom ((q, MO.dit kvs) :: m0)) H (dom ((q, MO.lkd od kws kvs) :: m0)) (upd H q o) := fun o => (Put.head (m := m0) (p := q) (o := .dit kvs) (u := .lkd od kws kvs)).stp
    have mu : MutR ((q, MO.lkd od kws kvs) :: m0) (upd H q (.frz od (.dT kws))) := (Put.head (m := m0) (p := q) (o := .dit kvs) (u := .lkd od kws kvs)).mut e.mu (.lkd upd_same (rk.mono (st _)))
    refine h od kws s _ _ (e.step (st _) mu) (z.step (st _)) fun d m' v H' s1 mu1 r1 ⟨m1, kvs', em, k⟩ => ?_
    subst em
    have at2 := (At.head (m := m1) (p := q) (o := .lkd od kws kvs')).rep mu1
    cases at2 with
    | lkd hh2 rk2 =>
      have st2 : ∀ o, Stp (dom ((q, MO.lkd od kws kvs') :: m1)) H' (dom ((q, MO.dit kvs') :: m1)) (upd H' q o) := fun o => (Put.head (m := m1) (p := q) (o := .lkd od kws kvs') (u := .dit kvs')).stp
      have mu2 : MutR ((q, MO.dit kvs') :: m1) (upd H' q (.dT kws)) := (Put.head (m := m1) (p := q) (o := .lkd od kws kvs') (u := .dit kvs')).mut mu1 (.dit upd_same (rk2.mono (st2 _)))
      exact ⟨hh2, g d _ v _ (((st _).trans s1).trans (st2 _)) mu2 (r1.mono (st2 _)) k⟩
end
end DL
set_option Elab.async false
set_option linter.all false
set_option maxRecDepth 100000
/-! DL34: a number's square; enumerate in a for. -/
namespace DL
open PySem PySem.Spec L2
open PyProof.Rows hiding St
section
variable {X : Cx} {W : WX} {E : ET} {r : Rho} {m : Mu} {K : KT} {KK : PySem.W.Frag}
theorem bits_ltD {n : Nat} {i : Int} (h : Bd n i) : Builtin.Int.intBits i ≤ n := by
  unfold Builtin.Int.intBits
  split
  · exact Nat.zero_le _
  · rename_i h0
    have h1 : i ≠ 0 := by simpa using h0
    have := (Nat.log2_lt (show i.natAbs ≠ 0 by omega)).mpr h
    omega
theorem op_sq : OpR X (binaryOp .Pow) (fun x y H Q => ∃ i, x = .int i ∧ y = .int 2 ∧ Bd 1000000 i ∧ Q (.int (i * i)) H) := by
  intro pins s σ H x y v u Q I rx ry h
  obtain ⟨i, rfl, rfl, hb, q⟩ := h
  obtain ⟨t, rfl⟩ := rx
  obtain ⟨t', rfl⟩ := ry
  have hl := bits_ltD hb
  have e : i ^ (2 : Int).toNat = i * i := by
    show i ^ 2 = i * i
    rw [Int.pow_succ, Int.pow_succ, Int.pow_zero, Int.one_mul]
  refine pow_int (by decide) (by omega) ?_
  rw [e]
  exact ⟨.int _, H, I.tok _, ⟨_, rfl⟩, q⟩
def oSq : O2 := fun x y _ H Q => ∃ i, x = .int i ∧ y = .int 2 ∧ Bd 1000000 i ∧ Q (.int (i * i)) H
theorem os_sq : OpS X (binaryOp .Pow) oSq := OpS.of op_sq
theorem w2_sq {i : Int} (hb : Bd 1000000 i) (h : K (.int (i * i)) m) : W2 W E oSq (.int i) (.int 2) r m K :=
  w2_val (fun _ _ _ => rint) (fun _ _ _ => rint) (fun _ _ => .int _) (fun _ _ _ q => ⟨i, rfl, rfl, hb, q⟩) h
theorem pi_enumK (hK : X.K = KK) {e : Expr} {ta : TA} {p pos tpos : Pos} {elts : List Expr} {kk : Nat} (hg : Gl X "enumerate") (hm : X.mg "enumerate" = none) (ha : PA X [e] ta) (hs : starEach [e] X.env = [(false, eval e X.env)] := by rfl) :
    PI X (.Tuple elts kk tpos) (.Call (.Name "enumerate" p) [e] [] pos) (iEnum KK ta) := by
  subst hK
  exact pi_enum hg hm ha hs
end
end DL
set_option Elab.async false
set_option linter.all false
set_option maxRecDepth 100000
/-! DL23: tables whose rows are written: a mutable list of mutable lists. -/
namespace DL
open PySem PySem.Spec L2
open PyProof.Rows hiding St
/-- rows that lie at qs -/
def rowsMu : List Addr → List (List D) → Mu
  | q :: qs, xs :: xss => (q, .lst xs) :: rowsMu qs xss
  | _, _ => []
/-- the table at p, its rows at qs -/
def matM (p : Addr) (qs : List Addr) (xss : List (List D)) (m : Mu) : Mu := rowsMu qs xss ++ (p, .lst (qs.map .ref)) :: m
/-- .. without what lies below -/
def matO (p : Addr) (qs : List Addr) (xss : List (List D)) : Mu := rowsMu qs xss ++ [(p, .lst (qs.map .ref))]
theorem matM_eq {p : Addr} {qs : List Addr} {xss : List (List D)} {m : Mu} : matM p qs xss m = matO p qs xss ++ m := by simp [matM, matO]
theorem at_matP {p : Addr} {qs : List Addr} {xss : List (List D)} {m : Mu} : At (matM p qs xss m) p (.lst (qs.map .ref)) := At.appR .head
theorem at_rows : ∀ {qs : List Addr} {xss : List (List D)} {i : Nat} {q : Addr} {xs : List D}, qs[i]? = some q → xss[i]? = some xs → At (rowsMu qs xss) q (.lst xs)
  | [], _, _, _, _, h, _ => by simp at h
  | _ :: _, [], _, _, _, _, h => by simp at h
  | q0 :: qs, x0 :: xss, 0, q, xs, h, h' => by
    simp at h h'
    subst h h'
    exact .head
  | q0 :: qs, x0 :: xss, i + 1, q, xs, h, h' => .tail (at_rows (i := i) (by simpa using h) (by simpa using h'))
theorem at_matR {p q : Addr} {qs : List Addr} {xss : List (List D)} {m : Mu} {i : Nat} {xs : List D} (h : qs[i]? = some q) (h' : xss[i]? = some xs) : At (matM p qs xss m) q (.lst xs) := (at_rows h h').app
theorem Put.app {own own' base : Mu} {p : Addr} {u : MO} (h : Put own p u own') : Put (own ++ base) p u (own' ++ base) := by
  induction h with
  | head => exact .head
  | tail _ ih => exact .tail ih
theorem Put.appR {own base base' : Mu} {p : Addr} {u : MO} (h : Put base p u base') : Put (own ++ base) p u (own ++ base') := by
  induction own with
  | nil => exact h
  | cons q own ih => exact .tail ih
theorem put_rows : ∀ {qs : List Addr} {xss : List (List D)} {i : Nat} {q : Addr} {ys : List D}, qs[i]? = some q → i < xss.length → Put (rowsMu qs xss) q (.lst ys) (rowsMu qs (xss.set i ys))
  | [], _, _, _, _, h, _ => by simp at h
  | _ :: _, [], _, _, _, _, h => by simp at h
  | q0 :: qs, x0 :: xss, 0, q, ys, h, _ => by
    simp at h
    subst h
    exact .head
  | q0 :: qs, x0 :: xss, i + 1, q, ys, h, h' => .tail (put_rows (i := i) (by simpa using h) (by simpa using h'))
theorem put_matR {p q : Addr} {qs : List Addr} {xss : List (List D)} {m : Mu} {i : Nat} {ys : List D} (h : qs[i]? = some q) (h' : i < xss.length) : Put (matM p qs xss m) q (.lst ys) (matM p qs (xss.set i ys) m) := (put_rows h h').app
theorem frz_rows {own : Mu} : ∀ {qs : List Addr} {xss : List (List D)}, qs.length = xss.length → (∀ q ∈ rowsMu qs xss, At own q.1 q.2) → FrzL own (qs.map .ref) (xss.map .lst)
  | [], [], _, _ => .nil
  | q :: qs, xs :: xss, h, k => .cons (.ref (k _ (List.mem_cons_self ..)) (FrzL.same xs)) (frz_rows (by simpa using h) fun z hz => k z (List.mem_cons_of_mem _ hz))
theorem At.of_mem {m : Mu} {p : Addr} {o : MO} (h : (p, o) ∈ m) : At m p o := by
  induction m with
  | nil => cases h
  | cons q m ih =>
    rcases List.mem_cons.mp h with e | h
    · subst e; exact .head
    · exact .tail (ih h)
/-- the whole table, taken as fixed -/
theorem frz_mat {p : Addr} {qs : List Addr} {xss : List (List D)} {m : Mu} (h : qs.length = xss.length) : Frz (matM p qs xss m) (.ref p) (.lst (xss.map .lst)) := .ref at_matP (frz_rows h fun q hq => At.of_mem (List.mem_append_left _ hq))
theorem frz_matO {p : Addr} {qs : List Addr} {xss : List (List D)} (h : qs.length = xss.length) : Frz (matO p qs xss) (.ref p) (.lst (xss.map .lst)) := .ref (At.appR .head) (frz_rows h fun q hq => At.of_mem (List.mem_append_left _ hq))
theorem rowsMu_snoc : ∀ {qs : List Addr} {xss : List (List D)} {q : Addr} {xs : List D}, qs.length = xss.length → rowsMu (qs ++ [q]) (xss ++ [xs]) = rowsMu qs xss ++ [(q, .lst xs)]
  | [], [], _, _, _ => rfl
  | q0 :: qs, x0 :: xss, q, xs, h => congrArg (_ :: ·) (rowsMu_snoc (by simpa using h))
section
variable {W : WX} {E : ET} {r : Rho} {m : Mu} {K : KT} {G : Gx} {te : TE} {wi : TI} {g : TG} {vs : List Nat}
/-- [row for ..], each row a new mutable list -/
theorem we_lcMat {α : Type} (inj : α → D) (f : α → List D) (gk : GK g vs) (h : Wi W E wi r m fun xs ps m1 => ∃ zs : List α, xs = zs.map inj ∧ Nat.ble zs.length 100000 = true ∧
      (∀ a ∈ zs, ∀ (own : Mu), Wg wNo eNo g (inj a) (wipeR r vs) (own ++ m1) fun r2 m2 => We wNo eNo te r2 m2 fun y m4 => ∃ q, y = .ref q ∧ m4 = (q, .lst (f a)) :: (own ++ m1)) ∧
      ∀ p qs, qs.length = zs.length → K (.ref p) (matM p qs (zs.map f) m1)) : We W E (tLc wi g tYes te vs) r m K :=
  we_perm (we_lcI gk fun s H R e z gg => h s H R e z fun J xs ps m1 H1 s1 mu1 it ⟨zs, hx, hlen, hel, hK⟩ => gg J xs ps m1 H1 s1 mu1 it fun Dd hD => by
    subst hx
    have hlen' := Nat.le_of_ble_eq_true hlen
    refine ⟨fun i m' => ∃ (qs : List Addr) (rs : Mu), qs.length = (zs.take i).length ∧ m' = rs ++ (Dd, .lst (qs.map .ref)) :: m1 ∧ rs.Perm (rowsMu qs ((zs.take i).map f)), ⟨[], [], rfl, rfl, List.Perm.nil⟩, fun i m' ⟨qs, rs, _, e, _⟩ => ?_, fun i x m' hx ⟨qs, rs, hl, e, hp⟩ => ?_, fun m' ⟨qs, rs, hl, e, hp⟩ => ?_⟩
    · subst e
      intro p hp o ho
      exact At.appR (.tail ho)
    · subst e
      rw [List.getElem?_map] at hx
      cases ha : zs[i]? with
      | none => rw [ha] at hx; cases hx
      | some a =>
        rw [ha] at hx
        cases hx
        have ex : zs.take (i + 1) = zs.take i ++ [a] := by
          rw [List.take_add_one, ha]
          rfl
        intro s2 H2 v Q e2 z2 rp2 g2
        have ee : rs ++ (Dd, MO.lst (qs.map .ref)) :: m1 = (rs ++ [(Dd, MO.lst (qs.map .ref))]) ++ m1 := by simp
        have key := hel a (List.mem_of_getElem? ha) (rs ++ [(Dd, MO.lst (qs.map .ref))])
        rw [← ee] at key
        refine key s2 H2 v Q e2 z2 rp2 fun r3 m3 s3 H3 a3 b3 c3 => g2 r3 m3 s3 H3 a3 b3 (wt_yes ⟨fun _ => c3.imp fun y m6 ⟨q, e5, e6⟩ => ?_, fun q => nomatch q⟩)
        subst e5 e6
        have lq : qs.length ≤ zs.length := by rw [hl, List.length_take]; exact Nat.min_le_right _ _
        refine ⟨qs.map .ref, (q, .lst (f a)) :: (rs ++ (Dd, .lst (qs.map .ref ++ [.ref q])) :: m1), .tail (At.appR .head), ?_, .tail ?_, qs ++ [q], (q, .lst (f a)) :: rs, ?_, ?_, ?_⟩
        · rw [List.length_map]
          omega
        · exact Put.appR .head
        · rw [ex]
          simp [hl]
        · simp
        · rw [ex, List.map_append]
          show List.Perm _ (rowsMu (qs ++ [q]) ((zs.take i).map f ++ [f a]))
          rw [rowsMu_snoc (by rw [hl, List.length_map])]
          exact (List.Perm.cons _ hp).trans (List.perm_append_comm (l₁ := [(q, MO.lst (f a))]))
    · subst e
      rw [List.length_map, List.take_length] at hl hp
      exact ⟨_, hp.append_right _, hK Dd qs hl⟩)
end
end DL
namespace DL
open PySem PySem.Spec L2
open PyProof.Rows hiding St
/-! ### the rules with the fragment told by its name -/
section
variable {X : Cx} {KK : PySem.W.Frag} {tg l e e2 : Expr} {tl : TE} {ta : TA} {p pos tpos : Pos} {elts es : List Expr} {kk k n : Nat} {t : TGs}
theorem pi_seqK (hK : X.K = KK) (hl : PE X l tl) : PI X tg l (iSeq KK tl) := by
  subst hK
  exact pi_seq hl
theorem pi_zipK (hK : X.K = KK) (hg : Gl X "zip") (hm : X.mg "zip" = none) (ha : PA X [e, e2] ta)
    (hs : starEach [e, e2] X.env = (false, eval e X.env) :: starEach [e2] X.env := by rfl) (hpl : (backTo pos (starEach [e2] X.env)).any (·.1) = false := by rfl) :
    PI X (.Tuple elts kk tpos) (.Call (.Name "zip" p) [e, e2] [] pos) (iZipS KK ta) := by
  subst hK
  exact pi_zipS hg hm ha hs hpl
theorem pg_tupK (hK : X.K = KK) (hc : X.calm = true) (h : PGs X es t)
    (hn : (assignEach es X.env).length = n := by rfl) (hst : (assignEach es X.env).findIdx? (·.1) = none := by rfl) : PG X (.Tuple es k pos) (gTup KK n t) := by
  subst hK
  exact pg_tup hc h hn hst
theorem sl_listK (hK : X.K = KK) : SlR X (rSlL KK) := by
  subst hK
  exact sl_list
end
end DL
set_option Elab.async false
set_option linter.all false
/-! MQ: a Ratio by its number (Lean's own Rat). -/
namespace DL
open PySem PySem.Spec L2
abbrev dv (t b : Int) : Rat := Rat.divInt t b
/-- a Ratio, by its number -/
abbrev rq (C : Addr) (x : Rat) : D := rat C x.num (x.den : Int)
structure Qb (n : Nat) (x : Rat) : Prop where
  t : Bd n x.num
  b : Bd n (x.den : Int)
theorem Qb.mono {a b : Nat} {x : Rat} (h : Qb a x) (l : a ≤ b) : Qb b x := ⟨h.1.mono l, h.2.mono l⟩
theorem den_pos (x : Rat) : 0 < (x.den : Int) := by have := x.den_nz; omega
theorem den_ne (x : Rat) : (x.den : Int) ≠ 0 := by have := x.den_nz; omega
theorem rT_dv {t b : Int} (h : b ≠ 0) : rT t b = (dv t b).num ∧ rB t b = ((dv t b).den : Int) := by
  obtain ⟨g, hg, e1, e2, hp⟩ := rat_eqs (t := t) h
  have e3 : dv t b = Rat.divInt (rT t b) (rB t b) := by
    have := Rat.divInt_mul_left (n := rT t b) (d := rB t b) hg
    rw [← e1, ← e2] at this
    exact this
  have hB : ((rB t b).toNat : Int) = rB t b := by omega
  have e4 : Rat.divInt (rT t b) (rB t b) = (⟨rT t b, (rB t b).toNat, by omega, by
      have := rat_gcd (t := t) h
      have e : (rB t b).natAbs = (rB t b).toNat := by omega
      rw [e] at this
      exact this⟩ : Rat) := by
    rw [Rat.mk_eq_divInt, hB]
  rw [e3, e4]
  exact ⟨rfl, hB.symm⟩
theorem rq_of {C : Addr} {t b : Int} (h : b ≠ 0) : rat C (rT t b) (rB t b) = rq C (dv t b) := by
  rw [(rT_dv h).1, (rT_dv h).2]
theorem qb_of {n : Nat} {t b : Int} (h : b ≠ 0) (ht : Bd n t) (hb : Bd n b) : Qb n (dv t b) := by
  have q1 := rat_bd h ht
  have q2 := rat_bdB (t := t) h hb
  rw [(rT_dv h).1] at q1
  rw [(rT_dv h).2] at q2
  exact ⟨q1, q2⟩
theorem dv_self (x : Rat) : dv x.num x.den = x := Rat.num_divInt_den x
theorem dv_pair {t b : Int} (h : 0 < b) : (dv t b).num * b = t * ((dv t b).den : Int) := by
  obtain ⟨g, hg, e1, e2, hp⟩ := rat_eqs (t := t) (b := b) (by omega)
  have r := rT_dv (t := t) (b := b) (by omega)
  rw [← r.1, ← r.2]
  generalize rT t b = P at *
  generalize rB t b = Q at *
  subst e1 e2
  ac_rfl
theorem dv_eq {a b c d : Int} (hb : b ≠ 0) (hd : d ≠ 0) : dv a b = dv c d ↔ a * d = c * b := Rat.divInt_eq_divInt_iff hb hd
theorem add_dv {a b c d : Int} (hb : b ≠ 0) (hd : d ≠ 0) : dv a b + dv c d = dv (a * d + c * b) (b * d) := Rat.divInt_add_divInt _ _ hb hd
theorem sub_dv {a b c d : Int} (hb : b ≠ 0) (hd : d ≠ 0) : dv a b - dv c d = dv (a * d - c * b) (b * d) := Rat.divInt_sub_divInt _ _ hb hd
theorem mul_dv {a b c d : Int} : dv a b * dv c d = dv (a * c) (b * d) := Rat.divInt_mul_divInt _ _
theorem neg_dv {a b : Int} : -dv a b = dv (-a) b := Rat.neg_divInt _ _
theorem dv_scale {a b k : Int} (hk : k ≠ 0) : dv (a * k) (b * k) = dv a b := Rat.divInt_mul_right hk
theorem inv_dv {a b : Int} : (dv a b)⁻¹ = dv b a := by
  by_cases hb : b = 0
  · subst hb
    rw [show dv a 0 = 0 from Rat.divInt_zero a, show dv 0 a = 0 from Rat.zero_divInt a, Rat.inv_zero]
  by_cases ha : a = 0
  · subst ha
    rw [show dv b 0 = 0 from Rat.divInt_zero b, show dv 0 b = 0 from Rat.zero_divInt b, Rat.inv_zero]
  refine Rat.inv_eq_of_mul_eq_one ?_
  rw [mul_dv, Int.mul_comm a b]
  exact Rat.divInt_self' (Int.mul_ne_zero hb ha)
theorem lt_dv {a b c d : Int} (hb : 0 < b) (hd : 0 < d) : dv a b < dv c d ↔ a * d < c * b := by
  rw [Rat.lt_iff]
  have e1 := dv_pair (t := a) hb
  have e2 := dv_pair (t := c) hd
  have p1 := den_pos (dv a b)
  have p2 := den_pos (dv c d)
  generalize (dv a b).num = A at *
  generalize ((dv a b).den : Int) = B at *
  generalize (dv c d).num = C at *
  generalize ((dv c d).den : Int) = D at *
  have k : 0 < b * d := Int.mul_pos hb hd
  have k2 : 0 < B * D := Int.mul_pos p1 p2
  have x1 : A * D * (b * d) = (a * d) * (B * D) := by
    calc A * D * (b * d) = (A * b) * (D * d) := by ac_rfl
      _ = _ := by rw [e1]; ac_rfl
  have x2 : C * B * (b * d) = (c * b) * (B * D) := by
    calc C * B * (b * d) = (C * d) * (B * b) := by ac_rfl
      _ = _ := by rw [e2]; ac_rfl
  constructor
  · intro h
    have := Int.mul_lt_mul_of_pos_right h k
    rw [x1, x2] at this
    exact Int.lt_of_mul_lt_mul_right this (Int.le_of_lt k2)
  · intro h
    have := Int.mul_lt_mul_of_pos_right h k2
    rw [← x1, ← x2] at this
    exact Int.lt_of_mul_lt_mul_right this (Int.le_of_lt k)
theorem le_dv {a b c d : Int} (hb : 0 < b) (hd : 0 < d) : dv a b ≤ dv c d ↔ a * d ≤ c * b := by
  rw [← Rat.not_lt, lt_dv hd hb]
  omega
theorem lt_q {x y : Rat} : x.num * y.den < y.num * x.den ↔ x < y := (Rat.lt_iff x y).symm
theorem num_neg_iff {x : Rat} : x.num < 0 ↔ x < 0 := by
  rw [← lt_q (x := x) (y := 0)]
  show _ ↔ x.num * ((1 : Nat) : Int) < 0 * x.den
  omega
theorem num_pos_iff {x : Rat} : 0 < x.num ↔ 0 < x := by
  rw [← lt_q (x := 0) (y := x)]
  show _ ↔ 0 * (x.den : Int) < x.num * ((1 : Nat) : Int)
  omega
theorem dv_pos {t b : Int} (hb : 0 < b) : 0 < dv t b ↔ 0 < t := by
  have := lt_dv (a := 0) (b := 1) (c := t) (d := b) (by decide) hb
  rw [show dv 0 1 = 0 from rfl] at this
  rw [this]; omega
theorem dv_neg {t b : Int} (hb : 0 < b) : dv t b < 0 ↔ t < 0 := by
  have := lt_dv (a := t) (b := b) (c := 0) (d := 1) hb (by decide)
  rw [show dv 0 1 = 0 from rfl] at this
  rw [this]; omega
theorem dv_nonneg {t b : Int} (hb : 0 < b) : 0 ≤ dv t b ↔ 0 ≤ t := by
  rw [← Rat.not_lt, dv_neg hb]; omega
theorem dv_nonpos {t b : Int} (hb : 0 < b) : dv t b ≤ 0 ↔ t ≤ 0 := by
  rw [← Rat.not_lt, dv_pos hb]; omega
theorem dv_zero {t b : Int} (hb : b ≠ 0) : dv t b = 0 ↔ t = 0 := by
  have := dv_eq (a := t) (b := b) (c := 0) (d := 1) hb (by decide)
  rw [show dv 0 1 = 0 from rfl] at this
  rw [this]; omega
/-! ### the program's own formulas -/
theorem q_add {x y : Rat} : dv (x.num * y.den + y.num * x.den) (x.den * y.den) = x + y := by
  have := add_dv (a := x.num) (c := y.num) (den_ne x) (den_ne y)
  rw [dv_self, dv_self] at this
  exact this.symm
theorem q_sub {x y : Rat} : dv (x.num * y.den - y.num * x.den) (x.den * y.den) = x - y := by
  have := sub_dv (a := x.num) (c := y.num) (den_ne x) (den_ne y)
  rw [dv_self, dv_self] at this
  exact this.symm
theorem q_mul {x y : Rat} : dv (x.num * y.num) (x.den * y.den) = x * y := by
  have := mul_dv (a := x.num) (b := x.den) (c := y.num) (d := y.den)
  rw [dv_self, dv_self] at this
  exact this.symm
theorem q_neg {x : Rat} : dv (-x.num) x.den = -x := by
  have := neg_dv (a := x.num) (b := x.den)
  rw [dv_self] at this
  exact this.symm
theorem q_div {x y : Rat} : dv (x.num * y.den) (x.den * y.num) = x / y := by
  have := mul_dv (a := x.num) (b := x.den) (c := y.den) (d := y.num)
  rw [← inv_dv (a := y.num), dv_self, dv_self] at this
  exact this.symm
theorem num_ne {x : Rat} (h : x ≠ 0) : x.num ≠ 0 := fun z => h (Rat.num_eq_zero.mp z)
theorem qb_add {a b : Nat} {x y : Rat} (h : Qb a x) (k : Qb b y) : Qb (a + b + 1) (x + y) := by
  rw [← q_add]
  exact qb_of (Int.mul_ne_zero (den_ne x) (den_ne y)) (((h.1.mul k.2)).add ((k.1.mul h.2).mono (Nat.le_of_eq (Nat.add_comm _ _)))) ((h.2.mul k.2).mono (by omega))
theorem qb_sub {a b : Nat} {x y : Rat} (h : Qb a x) (k : Qb b y) : Qb (a + b + 1) (x - y) := by
  rw [← q_sub]
  exact qb_of (Int.mul_ne_zero (den_ne x) (den_ne y)) (((h.1.mul k.2)).sub ((k.1.mul h.2).mono (Nat.le_of_eq (Nat.add_comm _ _)))) ((h.2.mul k.2).mono (by omega))
theorem qb_mul {a b : Nat} {x y : Rat} (h : Qb a x) (k : Qb b y) : Qb (a + b) (x * y) := by
  rw [← q_mul]
  exact qb_of (Int.mul_ne_zero (den_ne x) (den_ne y)) (h.1.mul k.1) (h.2.mul k.2)
theorem qb_div {a b : Nat} {x y : Rat} (h : Qb a x) (k : Qb b y) (n : y ≠ 0) : Qb (a + b) (x / y) := by
  rw [← q_div]
  exact qb_of (Int.mul_ne_zero (den_ne x) (num_ne n)) (h.1.mul k.2) (h.2.mul k.1)
theorem q_inv {x : Rat} : 1 / x = dv x.den x.num := by
  have := inv_dv (a := x.num) (b := x.den)
  rw [dv_self] at this
  rw [← this, Rat.div_def, Rat.one_mul]
theorem qb_inv {a : Nat} {x : Rat} (h : Qb a x) (n : x ≠ 0) : Qb a (1 / x) := by
  rw [q_inv]
  exact qb_of (num_ne n) h.2 h.1
theorem qb_neg {a : Nat} {x : Rat} (h : Qb a x) : Qb a (-x) := by
  rw [← q_neg]
  exact qb_of (den_ne x) h.1.neg h.2
theorem qb_one {n : Nat} : Qb (n + 1) 1 := by
  have : Bd (n + 1) 1 := (bd_lit (n := 1) (by decide)).mono (by omega)
  exact ⟨this, this⟩
/-! ### compare, least, greatest -/
def cq (x y : Rat) : Int := if x < y then -1 else if y < x then 1 else 0
def qmin (x y : Rat) : Rat := if y < x then y else x
def qmax (x y : Rat) : Rat := if x < y then y else x
theorem cq_pos {x y : Rat} : 0 < cq x y ↔ y < x := by
  unfold cq
  split
  · constructor <;> intro h
    · omega
    · exact absurd (Rat.le_of_lt h) (Rat.not_le.mpr ‹_›)
  · split
    · simp_all
    · simp_all
theorem cq_neg {x y : Rat} : cq x y < 0 ↔ x < y := by
  unfold cq
  split
  · simp_all
  · split
    · simp_all
    · simp_all
theorem cq_le {x y : Rat} : cq x y ≤ 0 ↔ x ≤ y := by
  rw [← Int.not_lt, cq_pos, Rat.not_lt]
theorem cq_ge {x y : Rat} : 0 ≤ cq x y ↔ y ≤ x := by
  rw [← Int.not_lt, cq_neg, Rat.not_lt]
theorem qmin_qb {a : Nat} {x y : Rat} (h : Qb a x) (k : Qb a y) : Qb a (qmin x y) := by
  unfold qmin
  split <;> assumption
theorem qmax_qb {a : Nat} {x y : Rat} (h : Qb a x) (k : Qb a y) : Qb a (qmax x y) := by
  unfold qmax
  split <;> assumption
end DL
set_option Elab.async false
set_option linter.all false
set_option maxRecDepth 100000
/-! DQ: Ratio and Span by numbers: what their methods promise. -/
namespace DL
open PySem PySem.Spec L2
open PyProof.Rows hiding St
/-! ### Ratio -/
def S_init (C : Addr) : SpecD := fun ds m K _ => ∃ x m0 t b, ds = [.ref x, .int t, .int b] ∧ m = (x, .ins C [] []) :: m0 ∧ b ≠ 0 ∧ Bd 8000 b ∧ K .non ((x, .ins C ["top", "bottom"] [.int (rT t b), .int (rB t b)]) :: m0)
structure RatQ (b : Int) (K : Prop) : Prop where
  nz : b ≠ 0
  bd : Bd 8000 b
  k : K
section
variable {W : WX} {E : ET} {ta : TA} {r : Rho} {m : Mu} {K : KT} {C S : Addr}
theorem we_ratQ (h : Wa W E ta r m fun ds m1 => ∃ p q, ds = [.int p, .int q] ∧ RatQ q (K (rq C (dv p q)) m1)) : We W E (tMk C 3 (S_init C) [] W ta) r m K :=
  we_mk0 (h.imp fun ds m1 ⟨p, q, e, h0, hb, k⟩ => by
    subst e
    exact ⟨rfl, fun x _ => ⟨x, m1, p, q, rfl, rfl, h0, hb, _, _, rfl, rfl, by rw [(rT_dv h0).1, (rT_dv h0).2]; exact k⟩⟩)
theorem we_ratQ1 (h : Wa W E ta r m fun ds m1 => ∃ p, ds = [.int p] ∧ K (rq C (p : Rat)) m1) : We W E (tMk C 3 (S_init C) [.int 1] W ta) r m K :=
  we_mk1 rfl (h.imp fun ds m1 ⟨p, e, k⟩ => by
    subst e
    have e1 : rT p 1 = p := (rat_low (by decide) (Nat.gcd_one_right _)).1
    have e2 : rB p 1 = 1 := (rat_low (t := p) (by decide) (Nat.gcd_one_right _)).2
    exact ⟨rfl, fun x _ => ⟨x, m1, p, 1, rfl, rfl, by decide, bd_lit (by decide), _, _, rfl, rfl, by rw [e1, e2]; exact k⟩⟩)
def S_q2 (C : Addr) (f : Rat → Rat → Rat) : SpecD := fun ds m K _ => ∃ x y, ds = [rq C x, rq C y] ∧ Qb 3900 x ∧ Qb 3900 y ∧ K (rq C (f x y)) m
def S_qadd (C : Addr) : SpecD := S_q2 C (fun x y => x + y)
def S_qsub (C : Addr) : SpecD := S_q2 C (fun x y => x - y)
def S_qmul (C : Addr) : SpecD := S_q2 C (fun x y => x * y)
def S_qleast (C : Addr) : SpecD := S_q2 C qmin
def S_qgreat (C : Addr) : SpecD := S_q2 C qmax
def S_qdiv (C : Addr) : SpecD := fun ds m K _ => ∃ x y, ds = [rq C x, rq C y] ∧ Qb 3900 x ∧ Qb 3900 y ∧ y ≠ 0 ∧ K (rq C (x / y)) m
def S_qneg (C : Addr) : SpecD := fun ds m K _ => ∃ x, ds = [rq C x] ∧ Qb 3900 x ∧ K (rq C (-x)) m
def S_qcmp (C : Addr) : SpecD := fun ds m K _ => ∃ x y, ds = [rq C x, rq C y] ∧ Qb 3900 x ∧ Qb 3900 y ∧ K (.int (cq x y)) m
def S_qsign (C : Addr) : SpecD := fun ds m K _ => ∃ x, ds = [rq C x] ∧ K (.int (cq x 0)) m
variable {F : Ex → Mu → Prop} {x y x0 x1 y0 y1 : Rat}
theorem use_qadd (h : Qb 3900 x) (k : Qb 3900 y) (q : K (rq C (x + y)) m) : S_qadd C [rq C x, rq C y] m K F := ⟨x, y, rfl, h, k, q⟩
theorem use_qsub (h : Qb 3900 x) (k : Qb 3900 y) (q : K (rq C (x - y)) m) : S_qsub C [rq C x, rq C y] m K F := ⟨x, y, rfl, h, k, q⟩
theorem use_qmul (h : Qb 3900 x) (k : Qb 3900 y) (q : K (rq C (x * y)) m) : S_qmul C [rq C x, rq C y] m K F := ⟨x, y, rfl, h, k, q⟩
theorem use_qleast (h : Qb 3900 x) (k : Qb 3900 y) (q : K (rq C (qmin x y)) m) : S_qleast C [rq C x, rq C y] m K F := ⟨x, y, rfl, h, k, q⟩
theorem use_qgreat (h : Qb 3900 x) (k : Qb 3900 y) (q : K (rq C (qmax x y)) m) : S_qgreat C [rq C x, rq C y] m K F := ⟨x, y, rfl, h, k, q⟩
theorem use_qdiv (h : Qb 3900 x) (k : Qb 3900 y) (n : y ≠ 0) (q : K (rq C (x / y)) m) : S_qdiv C [rq C x, rq C y] m K F := ⟨x, y, rfl, h, k, n, q⟩
theorem use_qneg (h : Qb 3900 x) (q : K (rq C (-x)) m) : S_qneg C [rq C x] m K F := ⟨x, rfl, h, q⟩
theorem use_qcmp (h : Qb 3900 x) (k : Qb 3900 y) (q : K (.int (cq x y)) m) : S_qcmp C [rq C x, rq C y] m K F := ⟨x, y, rfl, h, k, q⟩
theorem use_qsign (q : K (.int (cq x 0)) m) : S_qsign C [rq C x] m K F := ⟨x, rfl, q⟩
/-! ### Span -/
abbrev spn (S C : Addr) (x y : Rat) : D := .ins S ["low", "high"] [rq C x, rq C y]
theorem fix_lo {a b : D} : fix "low" ["low", "high"] [a, b] = some a := by simp [fix]
theorem nhl : ¬ (("high" : Str) = "low") := by decide +kernel
theorem fix_hi {a b : D} : fix "high" ["low", "high"] [a, b] = some b := by simp [fix, nhl]
structure SpnC (K : PySem.W.Frag) (C : Addr) : Prop where
  ins : InsK K C
  al : NoAttr K C "low"
  ah : NoAttr K C "high"
section
variable {K : PySem.W.Frag} {KK : D → Prop} {C : Addr} {a b : D}
theorem fld_low (R : SpnC K C) (h : KK a) : ∃ C' ns ds x, D.ins C ["low", "high"] [a, b] = .ins C' ns ds ∧ Cls K C' ∧ NoAttr K C' "low" ∧ fix "low" ns ds = some x ∧ KK x := ⟨_, _, _, _, rfl, R.ins.cl, R.al, fix_lo, h⟩
theorem fld_high (R : SpnC K C) (h : KK b) : ∃ C' ns ds x, D.ins C ["low", "high"] [a, b] = .ins C' ns ds ∧ Cls K C' ∧ NoAttr K C' "high" ∧ fix "high" ns ds = some x ∧ KK x := ⟨_, _, _, _, rfl, R.ins.cl, R.ah, fix_hi, h⟩
variable {m0 : Mu} {x : Addr} {d e : D} {N : Mu → Prop}
theorem cont_lh : (["low"] : List Str).contains "high" = false := by decide +kernel
theorem setN_low (R : SpnC K C) (h : N ((x, .ins C ["low"] [d]) :: m0)) : ∃ p C' ns ds m3, D.ref x = .ref p ∧ At ((x, MO.ins C [] []) :: m0) p (.ins C' ns ds) ∧ Cls K C' ∧ NoAttr K C' "low" ∧ ns.contains "low" = false ∧ Nat.ble ns.length 900 = true ∧ Put ((x, MO.ins C [] []) :: m0) p (.ins C' (ns ++ [("low" : Str)]) (ds ++ [d])) m3 ∧ N m3 :=
  ⟨_, _, _, _, _, rfl, .head, R.ins.cl, R.al, rfl, rfl, .head, h⟩
theorem setN_high (R : SpnC K C) (h : N ((x, .ins C ["low", "high"] [d, e]) :: m0)) : ∃ p C' ns ds m3, D.ref x = .ref p ∧ At ((x, MO.ins C ["low"] [d]) :: m0) p (.ins C' ns ds) ∧ Cls K C' ∧ NoAttr K C' "high" ∧ ns.contains "high" = false ∧ Nat.ble ns.length 900 = true ∧ Put ((x, MO.ins C ["low"] [d]) :: m0) p (.ins C' (ns ++ [("high" : Str)]) (ds ++ [e])) m3 ∧ N m3 :=
  ⟨_, _, _, _, _, rfl, .head, R.ins.cl, R.ah, cont_lh, rfl, .head, h⟩
end
def S_sinit (S C : Addr) : SpecD := fun ds m K _ => ∃ x m0 a b, ds = [.ref x, rq C a, rq C b] ∧ m = (x, .ins S [] []) :: m0 ∧ a ≤ b ∧ Qb 3900 a ∧ Qb 3900 b ∧ K .non ((x, .ins S ["low", "high"] [rq C a, rq C b]) :: m0)
structure SpnA (x y : Rat) (K : Prop) : Prop where
  le : x ≤ y
  qx : Qb 3900 x
  qy : Qb 3900 y
  k : K
theorem we_spn (h : Wa W E ta r m fun ds m1 => ∃ x y, ds = [rq C x, rq C y] ∧ SpnA x y (K (spn S C x y) m1)) : We W E (tMk S 3 (S_sinit S C) [] W ta) r m K :=
  we_mk0 (h.imp fun ds m1 ⟨p, q, e, le, qx, qy, k⟩ => by
    subst e
    exact ⟨rfl, fun x _ => ⟨x, m1, p, q, rfl, rfl, le, qx, qy, _, _, rfl, rfl, k⟩⟩)
/-- two spans, of a size -/
structure Two (x0 x1 y0 y1 : Rat) : Prop where
  lx : x0 ≤ x1
  ly : y0 ≤ y1
  a0 : Qb 900 x0
  a1 : Qb 900 x1
  b0 : Qb 900 y0
  b1 : Qb 900 y1
abbrev F4 := Rat → Rat → Rat → Rat → Rat
def S_s2 (S C : Addr) (f g : F4) : SpecD := fun ds m K _ => ∃ x0 x1 y0 y1, ds = [spn S C x0 x1, spn S C y0 y1] ∧ Two x0 x1 y0 y1 ∧ K (spn S C (f x0 x1 y0 y1) (g x0 x1 y0 y1)) m
def q4min (a b c d : Rat) : Rat := qmin (qmin a b) (qmin c d)
def q4max (a b c d : Rat) : Rat := qmax (qmax a b) (qmax c d)
def addL : F4 := fun x0 _ y0 _ => x0 + y0
def addH : F4 := fun _ x1 _ y1 => x1 + y1
def subL : F4 := fun x0 _ _ y1 => x0 - y1
def subH : F4 := fun _ x1 y0 _ => x1 - y0
def mulL : F4 := fun x0 x1 y0 y1 => q4min (x0 * y0) (x0 * y1) (x1 * y0) (x1 * y1)
def mulH : F4 := fun x0 x1 y0 y1 => q4max (x0 * y0) (x0 * y1) (x1 * y0) (x1 * y1)
def leL : F4 := fun x0 _ y0 _ => qmin x0 y0
def leH : F4 := fun _ x1 _ y1 => qmin x1 y1
def grL : F4 := fun x0 _ y0 _ => qmax x0 y0
def grH : F4 := fun _ x1 _ y1 => qmax x1 y1
def divL : F4 := fun x0 x1 y0 y1 => mulL x0 x1 (1 / y1) (1 / y0)
def divH : F4 := fun x0 x1 y0 y1 => mulH x0 x1 (1 / y1) (1 / y0)
theorem use_s2 {f g : F4} (h : Two x0 x1 y0 y1) (k : K (spn S C (f x0 x1 y0 y1) (g x0 x1 y0 y1)) m) : S_s2 S C f g [spn S C x0 x1, spn S C y0 y1] m K F := ⟨_, _, _, _, rfl, h, k⟩
def S_sneg (S C : Addr) : SpecD := fun ds m K _ => ∃ x0 x1, ds = [spn S C x0 x1] ∧ x0 ≤ x1 ∧ Qb 900 x0 ∧ Qb 900 x1 ∧ K (spn S C (-x1) (-x0)) m
theorem use_sneg (h : x0 ≤ x1) (a : Qb 900 x0) (b : Qb 900 x1) (k : K (spn S C (-x1) (-x0)) m) : S_sneg S C [spn S C x0 x1] m K F := ⟨_, _, rfl, h, a, b, k⟩
def S_scont (S C : Addr) : SpecD := fun ds m K _ => ∃ x0 x1 x, ds = [spn S C x0 x1, rq C x] ∧ Qb 3900 x0 ∧ Qb 3900 x1 ∧ Qb 3900 x ∧ K (.bl (decide (x0 ≤ x ∧ x ≤ x1))) m
theorem use_scont (a : Qb 3900 x0) (b : Qb 3900 x1) (c : Qb 3900 x) (k : K (.bl (decide (x0 ≤ x ∧ x ≤ x1))) m) : S_scont S C [spn S C x0 x1, rq C x] m K F := ⟨_, _, _, rfl, a, b, c, k⟩
/-- the quotient, or ZeroBottom (class Z) -/
def S_sdiv (S C Z : Addr) : SpecD := fun ds m K E => ∃ x0 x1 y0 y1, ds = [spn S C x0 x1, spn S C y0 y1] ∧ Two x0 x1 y0 y1 ∧ ((y0 ≤ 0 ∧ 0 ≤ y1 ∧ E ⟨Z, [], []⟩ m) ∨ ((0 < y0 ∨ y1 < 0) ∧ K (spn S C (divL x0 x1 y0 y1) (divH x0 x1 y0 y1)) m))
theorem use_sdiv {Z : Addr} (h : Two x0 x1 y0 y1) (n : 0 < y0 ∨ y1 < 0) (k : K (spn S C (divL x0 x1 y0 y1) (divH x0 x1 y0 y1)) m) : S_sdiv S C Z [spn S C x0 x1, spn S C y0 y1] m K F := ⟨_, _, _, _, rfl, h, .inr ⟨n, k⟩⟩
/-! what is between -/
theorem q4_le {a b c d : Rat} : q4min a b c d ≤ q4max a b c d := by
  unfold q4min q4max qmin qmax
  grind
theorem q4min_qb {n : Nat} {a b c d : Rat} (ha : Qb n a) (hb : Qb n b) (hc : Qb n c) (hd : Qb n d) : Qb n (q4min a b c d) := qmin_qb (qmin_qb ha hb) (qmin_qb hc hd)
theorem q4max_qb {n : Nat} {a b c d : Rat} (ha : Qb n a) (hb : Qb n b) (hc : Qb n c) (hd : Qb n d) : Qb n (q4max a b c d) := qmax_qb (qmax_qb ha hb) (qmax_qb hc hd)
theorem qmin_le {a b c d : Rat} (h : a ≤ c) (k : b ≤ d) : qmin a b ≤ qmin c d := by
  unfold qmin
  grind
theorem qmax_le {a b c d : Rat} (h : a ≤ c) (k : b ≤ d) : qmax a b ≤ qmax c d := by
  unfold qmax
  grind
theorem inv_anti {a b : Rat} (h : a ≤ b) (n : 0 < a ∨ b < 0) : 1 / b ≤ 1 / a := by
  have na : a ≠ 0 := by grind
  have nb : b ≠ 0 := by grind
  have ea := Rat.div_mul_cancel (a := 1) na
  have eb := Rat.div_mul_cancel (a := 1) nb
  generalize 1 / a = u at *
  generalize 1 / b = v at *
  have e : (u - v) * (a * b) = b - a := by grind
  have p : 0 < a * b := by
    rcases n with n | n
    · exact Rat.mul_pos n (by grind)
    · have := Rat.mul_pos (a := -a) (b := -b) (by grind) (by grind)
      grind
  have q : 0 * (a * b) ≤ (u - v) * (a * b) := by rw [e]; grind
  have := Rat.le_of_mul_le_mul_right q p
  grind
end
end DL
set_option Elab.async false
set_option linter.all false
set_option maxRecDepth 100000
/-! DQ2: Ratio's own ==, rounding; pairs that stand for fractions. -/
namespace DL
open PySem PySem.Spec L2
open PyProof.Rows hiding St
section
variable {W : WX} {E : ET} {ta : TA} {r : Rho} {m : Mu} {K : KT} {C : Addr} {F : Ex → Mu → Prop} {x y : Rat} {G : Gx} {j k : Nat} {d' : D} {T : String}
/-- Ratio's own == -/
def S_qeq (G : Gx) (C : Addr) : SpecD := fun ds m K _ => ∃ x d', ds = [rq C x, d'] ∧ ((∃ y, d' = rq C y ∧ K (.bl (decide (x = y))) m) ∨ (∃ t, TyD G d' m t ∧ PySem.W.kitOne G.K t (.ref C) = some false ∧ K (.bl false) m))
theorem w2_qeq (O : Opr G k C "__eq__" 2 (S_qeq G C)) (hk : k ≤ j) (ic : InsK G.K C) (h : K (.bl (decide (x = y))) m) : W2 W E (oEqF G j W) (rq C x) (rq C y) r m K :=
  w2_eqFL O hk .fixed (.ins ic) nf_self ⟨x, rq C y, rfl, .inl ⟨y, rfl, h⟩⟩
theorem w2_qeqL (O : Opr G k C "__eq__" 2 (S_qeq G C)) (hk : k ≤ j) (Kc : KindsC G C) (b : BkD d' T) (h : K (.bl false) m) : W2 W E (oEqF G j W) (rq C x) d' r m K :=
  w2_eqFL O hk .fixed b.ty (Kc.nf T b.mem) ⟨x, d', rfl, .inr ⟨_, b.ty, Kc.kt T b.mem, h⟩⟩
theorem w2_qeqR (O : Opr G k C "__eq__" 2 (S_qeq G C)) (hk : k ≤ j) (Kc : KindsC G C) (b : BkD d' T) (h : K (.bl false) m) : W2 W E (oEqF G j W) d' (rq C x) r m K :=
  w2_eqFR O hk .fixed b (Kc.sb T b.mem) ⟨x, d', rfl, .inr ⟨_, b.ty, Kc.kt T b.mem, h⟩⟩
theorem q_eq : x = y ↔ x.num = y.num ∧ (x.den : Int) = y.den := by
  constructor
  · intro e
    subst e
    exact ⟨rfl, rfl⟩
  · intro h
    exact Rat.ext h.1 (Int.ofNat.inj h.2)
def S_qdown (C : Addr) : SpecD := fun ds m K _ => ∃ x, ds = [rq C x] ∧ Qb 3900 x ∧ K (.int (x.num / x.den)) m
def S_qup (C : Addr) : SpecD := fun ds m K _ => ∃ x, ds = [rq C x] ∧ Qb 3900 x ∧ K (.int (-(-x.num / x.den))) m
theorem use_qdown (h : Qb 3900 x) (q : K (.int (x.num / x.den)) m) : S_qdown C [rq C x] m K F := ⟨x, rfl, h, q⟩
theorem use_qup (h : Qb 3900 x) (q : K (.int (-(-x.num / x.den))) m) : S_qup C [rq C x] m K F := ⟨x, rfl, h, q⟩
end
/-- rounding, by any pair -/
theorem dv_floor {a b : Int} (hb : 0 < b) : (dv a b).num / ((dv a b).den : Int) = a / b := by
  obtain ⟨g, hg, e1, e2, hp⟩ := rat_eqs (t := a) (b := b) (by omega)
  have r := rT_dv (t := a) (b := b) (by omega)
  rw [← r.1, ← r.2]
  have gp : 0 < g := by
    refine Int.lt_of_not_ge fun z => ?_
    have : g * rB a b ≤ 0 := Int.mul_nonpos_of_nonpos_of_nonneg z (Int.le_of_lt hp)
    omega
  generalize rT a b = P at *
  generalize rB a b = Q at *
  subst e1 e2
  exact (Int.mul_ediv_mul_of_pos _ _ gp).symm
theorem dv_ceil {a b : Int} (hb : 0 < b) : -(-(dv a b).num / ((dv a b).den : Int)) = -(-a / b) := by
  have e := dv_floor (a := -a) hb
  rw [← neg_dv] at e
  rw [← e]
  rfl
theorem dv_int {a : Int} : dv a 1 = (a : Rat) := by
  rw [show dv a 1 = (a : Rat) / ((1 : Int) : Rat) from Rat.divInt_eq_div a 1]
  rw [Rat.div_def]
  have : (((1 : Int) : Rat))⁻¹ = 1 := Rat.inv_eq_of_mul_eq_one (by rw [Rat.mul_one]; rfl)
  rw [this, Rat.mul_one]
/-- a pair that stands for a fraction, of a size -/
structure Fr (n : Nat) (t b : Int) : Prop where
  pos : 0 < b
  bt : Bd n t
  bb : Bd n b
theorem Fr.mono {a b : Nat} {x y : Int} (h : Fr a x y) (l : a ≤ b) : Fr b x y := ⟨h.pos, h.bt.mono l, h.bb.mono l⟩
theorem Fr.plus {n k : Nat} {a b c d : Int} (h : Fr n a b) (q : Fr k c d) : Fr (n + k + 1) (a * d + c * b) (b * d) :=
  ⟨Int.mul_pos h.pos q.pos, (h.bt.mul q.bb).add ((q.bt.mul h.bb).mono (Nat.le_of_eq (Nat.add_comm _ _))), (h.bb.mul q.bb).mono (by omega)⟩
theorem Fr.minus {n k : Nat} {a b c d : Int} (h : Fr n a b) (q : Fr k c d) : Fr (n + k + 1) (a * d - c * b) (b * d) :=
  ⟨Int.mul_pos h.pos q.pos, (h.bt.mul q.bb).sub ((q.bt.mul h.bb).mono (Nat.le_of_eq (Nat.add_comm _ _))), (h.bb.mul q.bb).mono (by omega)⟩
theorem Fr.mul {n k : Nat} {a b c d : Int} (h : Fr n a b) (q : Fr k c d) : Fr (n + k) (a * c) (b * d) :=
  ⟨Int.mul_pos h.pos q.pos, h.bt.mul q.bt, h.bb.mul q.bb⟩
theorem bd_nat {n : Nat} {a : Int} (h : Bd n a) : Bd n (a.natAbs : Int) := by
  unfold Bd at *
  rwa [Int.natAbs_natCast]
theorem Fr.abs {n : Nat} {a b : Int} (h : Fr n a b) : Fr n (a.natAbs : Int) b := ⟨h.pos, bd_nat h.bt, h.bb⟩
theorem Fr.neg {n : Nat} {a b : Int} (h : Fr n a b) : Fr n (-a) b := ⟨h.pos, h.bt.neg, h.bb⟩
theorem Fr.qb {n : Nat} {a b : Int} (h : Fr n a b) : Qb n (dv a b) := qb_of (by have := h.pos; omega) h.bt h.bb
theorem fr_small {a b : Int} (h : a.natAbs ≤ 1000000000000) (k : 0 < b) (l : b ≤ 1000000000000) : Fr 40 a b := ⟨k, by unfold Bd; omega, by unfold Bd; omega⟩
theorem fr_one {n : Nat} {a : Int} (h : Bd n a) : Fr (n + 1) a 1 := ⟨by decide, h.mono (by omega), (bd_lit (n := 1) (by decide)).mono (by omega)⟩
theorem fr_zero : Fr 1 0 1 := ⟨by decide, bd_lit (by decide), bd_lit (by decide)⟩
theorem abs_nn {a b : Int} (h : 0 < b) : 0 ≤ dv (a.natAbs : Int) b := (dv_nonneg h).mpr (by omega)
theorem neg_np {a b : Int} (h : 0 < b) : dv (-(a.natAbs : Int)) b ≤ 0 := (dv_nonpos h).mpr (by omega)
theorem cq_dv {a b c d : Int} (hb : 0 < b) (hd : 0 < d) : cq (dv a b) (dv c d) = if a * d - c * b < 0 then -1 else if 0 < a * d - c * b then 1 else 0 := by
  unfold cq
  simp only [lt_dv hb hd, lt_dv hd hb]
  have e1 : a * d < c * b ↔ a * d - c * b < 0 := by omega
  have e2 : c * b < a * d ↔ 0 < a * d - c * b := by omega
  simp only [e1, e2]
theorem cq_self {x : Rat} : cq x x = 0 := by
  unfold cq
  grind
theorem cq_swap {x y : Rat} : cq y x = -cq x y := by
  unfold cq
  grind
theorem cq_zero {x y : Rat} : cq x y = 0 ↔ x = y := by
  unfold cq
  grind
theorem cq_num {x : Rat} : cq x 0 = cq x (dv 0 1) := rfl
end DL
set_option Elab.async false
set_option linter.all false
set_option maxRecDepth 100000
/-! DG: lists and tables of whole numbers; Grid. -/
namespace DL
open PySem PySem.Spec L2
open PyProof.Rows hiding St
abbrev li (xs : List Int) : D := .lst (xs.map D.int)
abbrev tup (xs : List Int) : D := .tup (xs.map D.int)
abbrev lli (rows : List (List Int)) : D := .lst (rows.map li)
abbrev tti (rows : List (List Int)) : D := .tup (rows.map tup)
theorem fix_hd {n : Str} {d : D} {ns : List Str} {ds : List D} : fix n (n :: ns) (d :: ds) = some d := by
  unfold fix
  rw [if_pos rfl]
theorem fix_tl {f n : Str} {d x : D} {ns : List Str} {ds : List D} (h : ¬ f = n) (k : fix f ns ds = some x) : fix f (n :: ns) (d :: ds) = some x := by
  unfold fix
  rw [if_neg h]
  exact k
section
variable {W : WX} {E : ET} {r : Rho} {m : Mu} {K : KT} {KI : List D → List Addr → Mu → Prop} {G : Gx} {ta : TA}
/-- the sum of a list that was made item by item -/
theorem wc_sumG {α : Type} {zs : List α} {g : α → Int} (h : K (.int (zs.map g).sum) m) : Wc W E (cSumF G) [.lst (zs.map fun a => .int (g a))] r m K :=
  wc_sumF .lst (by rw [List.map_map]; rfl) h
theorem wc_sumI {zs : List Int} (h : K (.int zs.sum) m) : Wc W E (cSumF G) [.lst (zs.map .int)] r m K := wc_sumF .lst rfl h
theorem zipD_map {α β : Type} (l1 : List α) (l2 : List β) (i1 : α → D) (i2 : β → D) : zipD (l1.map i1) (l2.map i2) = (l1.zip l2).map fun p => .tup [i1 p.1, i2 p.2] := by
  unfold zipD
  induction l1 generalizing l2 with
  | nil => simp
  | cons a l1 ih =>
    cases l2 with
    | nil => simp
    | cons b l2 => simp [ih l2]
theorem wi_zipM (h : Wa W E ta r m fun ds m1 => ∃ (x y : D) (ps qs : List Addr) (α β : Type) (l1 : List α) (l2 : List β) (i1 : α → D) (i2 : β → D), ds = [x, y] ∧ SeqM x m1 ps (l1.map i1) ∧ SeqM y m1 qs (l2.map i2) ∧
    KI ((l1.zip l2).map fun p => .tup [i1 p.1, i2 p.2]) (ps ++ qs) m1) : Wi W E (iZipS G.K ta) r m KI :=
  wi_zip (fun s H Q e z g => h s H Q e z fun ds m1 vs H1 a b c ⟨x, y, ps, qs, α, β, l1, l2, i1, i2, e1, e2, e3, k⟩ => g ds m1 vs H1 a b c ⟨x, y, ps, qs, _, _, e1, e2, e3, by rw [zipD_map]; exact k⟩)
end
theorem atI_get {α : Type} {xs : List α} {i : Nat} {d : α} (h : xs[i]? = some d) : atI xs (i : Int) = some d := by
  obtain ⟨hlt, e⟩ := List.getElem?_eq_some_iff.mp h
  unfold atI ixN
  rw [if_pos (by omega), if_pos (by omega)]
  exact h
theorem atI_hd {α : Type} {x : α} {xs : List α} : atI (x :: xs) 0 = some x := atI_get (i := 0) rfl
theorem get_map {α β : Type} {f : α → β} {l : List α} {i : Nat} {x : β} (h : (l.map f)[i]? = some x) : ∃ a, l[i]? = some a ∧ x = f a := by
  rw [List.getElem?_map] at h
  cases e : l[i]? with
  | none => rw [e] at h; cases h
  | some a => rw [e] at h; exact ⟨a, rfl, (Option.some.inj h).symm⟩
theorem get_map' {α β : Type} {f : α → β} {l : List α} {i : Nat} {x : β} (h : (l.map f)[i]? = some x) : ∃ a, l[i]? = some a ∧ f a = x := by
  obtain ⟨a, h1, h2⟩ := get_map h
  exact ⟨a, h1, h2.symm⟩
/-! ### common divisors -/
def gA (d : Nat) (xs : List Int) : Nat := xs.foldl (fun d x => d.gcd x.natAbs) d
theorem gA_nil {d : Nat} : gA d [] = d := rfl
theorem gA_cons {d : Nat} {x : Int} {xs : List Int} : gA d (x :: xs) = gA (d.gcd x.natAbs) xs := rfl
theorem gA_app {d : Nat} {xs ys : List Int} : gA d (xs ++ ys) = gA (gA d xs) ys := List.foldl_append ..
theorem gA_one : ∀ {xs : List Int}, gA 1 xs = 1
  | [] => rfl
  | x :: xs => by rw [gA_cons, Nat.gcd_one_left, gA_one]
theorem gA_dvd : ∀ {xs : List Int} {d : Nat}, gA d xs ∣ d ∧ ∀ x ∈ xs, gA d xs ∣ x.natAbs
  | [], d => ⟨Nat.dvd_refl _, fun _ h => nomatch h⟩
  | x :: xs, d => by
    obtain ⟨h1, h2⟩ := gA_dvd (xs := xs) (d := d.gcd x.natAbs)
    rw [gA_cons]
    refine ⟨Nat.dvd_trans h1 (Nat.gcd_dvd_left _ _), fun y hy => ?_⟩
    rcases List.mem_cons.mp hy with e | hy
    · subst e
      exact Nat.dvd_trans h1 (Nat.gcd_dvd_right _ _)
    · exact h2 y hy
theorem dvd_gA {n : Nat} : ∀ {xs : List Int} {d : Nat}, n ∣ d → (∀ x ∈ xs, n ∣ x.natAbs) → n ∣ gA d xs
  | [], _, h, _ => h
  | x :: xs, d, h, k => by
    rw [gA_cons]
    exact dvd_gA (Nat.dvd_gcd h (k x (List.mem_cons_self ..))) fun y hy => k y (List.mem_cons_of_mem _ hy)
theorem gA_pos {d : Nat} {xs : List Int} (h : 0 < d) : 0 < gA d xs := Nat.pos_of_dvd_of_pos gA_dvd.1 h
/-- what is left when all is divided by the common divisor has none -/
theorem gA_red {d : Nat} {xs : List Int} (h : 0 < d) : gA (d / gA d xs) (xs.map (· / (gA d xs : Int))) = 1 := by
  have gp := gA_pos (xs := xs) h
  obtain ⟨g1, g2⟩ := gA_dvd (xs := xs) (d := d)
  obtain ⟨h1, h2⟩ := gA_dvd (xs := xs.map (· / (gA d xs : Int))) (d := d / gA d xs)
  generalize hk : gA (d / gA d xs) (xs.map (· / (gA d xs : Int))) = k at *
  have a1 : k * gA d xs ∣ d := by
    have := Nat.mul_dvd_mul_right h1 (gA d xs)
    rwa [Nat.div_mul_cancel g1] at this
  have a2 : ∀ x ∈ xs, k * gA d xs ∣ x.natAbs := fun x hx => by
    have q := h2 _ (List.mem_map.mpr ⟨x, hx, rfl⟩)
    have e : (x / (gA d xs : Int)).natAbs = x.natAbs / gA d xs := natAbs_div gp (Int.ofNat_dvd_left.mpr (g2 x hx))
    rw [e] at q
    have := Nat.mul_dvd_mul_right q (gA d xs)
    rwa [Nat.div_mul_cancel (g2 x hx)] at this
  have a3 := dvd_gA a1 a2
  have a4 : k * gA d xs ≤ 1 * gA d xs := by
    rw [Nat.one_mul]
    exact Nat.le_of_dvd gp a3
  have a5 := Nat.le_of_mul_le_mul_right a4 gp
  have a6 : 0 < k := Nat.pos_of_dvd_of_pos h1 (Nat.div_pos (Nat.le_of_dvd h g1) gp)
  omega
/-! ### Grid -/
/-- h rows of w numbers; no columns where there are no rows -/
structure Rect (rows : List (List Int)) (w : Nat) : Prop where
  wid : ∀ r ∈ rows, r.length = w
  hl : rows.length ≤ 64
  wl : w ≤ 64
  ne : rows = [] → w = 0
def gcv (rows : List (List Int)) (over : Int) : Nat := gA over.natAbs rows.flatten
abbrev gN : List Str := ["rows", "over", "height", "width"]
abbrev gd (C : Addr) (rows : List (List Int)) (over : Int) (w : Nat) : D := .ins C gN [tti rows, .int over, .int (rows.length : Nat), .int (w : Nat)]
def redR (rows : List (List Int)) (g : Nat) : List (List Int) := rows.map fun r => r.map fun x => x / (g : Int)
theorem redR_len {rows : List (List Int)} {g : Nat} : (redR rows g).length = rows.length := by simp [redR]
theorem redR_one {rows : List (List Int)} : redR rows 1 = rows := by
  unfold redR
  have : (fun r : List Int => r.map fun x => x / ((1 : Nat) : Int)) = id := by
    funext r
    simp
  rw [this, List.map_id]
theorem gcv_pos {rows : List (List Int)} {over : Int} (h : 0 < over) : 0 < gcv rows over := gA_pos (by omega)
theorem gcv_dvd {rows : List (List Int)} {over : Int} : (gcv rows over : Int) ∣ over ∧ ∀ r ∈ rows, ∀ x ∈ r, (gcv rows over : Int) ∣ x :=
  ⟨Int.ofNat_dvd_left.mpr gA_dvd.1, fun r hr x hx => Int.ofNat_dvd_left.mpr (gA_dvd.2 x (List.mem_flatten.mpr ⟨r, hr, hx⟩))⟩
/-- the grid made of rows over a number -/
abbrev gdm (C : Addr) (rows : List (List Int)) (over : Int) (w : Nat) : D := gd C (redR rows (gcv rows over)) (over / (gcv rows over : Int)) w
structure GridC (K : PySem.W.Frag) (C : Addr) : Prop where
  ins : InsK K C
  n1 : NoAttr K C "rows"
  n2 : NoAttr K C "over"
  n3 : NoAttr K C "height"
  n4 : NoAttr K C "width"
theorem nOR : ¬ (("over" : Str) = "rows") := by decide +kernel
theorem nHR : ¬ (("height" : Str) = "rows") := by decide +kernel
theorem nHO : ¬ (("height" : Str) = "over") := by decide +kernel
theorem nWR : ¬ (("width" : Str) = "rows") := by decide +kernel
theorem nWO : ¬ (("width" : Str) = "over") := by decide +kernel
theorem nWH : ¬ (("width" : Str) = "height") := by decide +kernel
section
variable {K : PySem.W.Frag} {C : Addr} {KK : D → Prop} {a b c d : D} {m0 : Mu} {x : Addr} {N : Mu → Prop} {f : Str} {ns : List Str} {ds : List D}
theorem fld_rows (R : GridC K C) (h : KK a) : ∃ C' ns ds x, D.ins C gN [a, b, c, d] = .ins C' ns ds ∧ Cls K C' ∧ NoAttr K C' "rows" ∧ fix "rows" ns ds = some x ∧ KK x := ⟨_, _, _, _, rfl, R.ins.cl, R.n1, fix_hd, h⟩
theorem fld_over (R : GridC K C) (h : KK b) : ∃ C' ns ds x, D.ins C gN [a, b, c, d] = .ins C' ns ds ∧ Cls K C' ∧ NoAttr K C' "over" ∧ fix "over" ns ds = some x ∧ KK x := ⟨_, _, _, _, rfl, R.ins.cl, R.n2, fix_tl nOR fix_hd, h⟩
theorem fld_height (R : GridC K C) (h : KK c) : ∃ C' ns ds x, D.ins C gN [a, b, c, d] = .ins C' ns ds ∧ Cls K C' ∧ NoAttr K C' "height" ∧ fix "height" ns ds = some x ∧ KK x := ⟨_, _, _, _, rfl, R.ins.cl, R.n3, fix_tl nHR (fix_tl nHO fix_hd), h⟩
theorem fld_width (R : GridC K C) (h : KK d) : ∃ C' ns ds x, D.ins C gN [a, b, c, d] = .ins C' ns ds ∧ Cls K C' ∧ NoAttr K C' "width" ∧ fix "width" ns ds = some x ∧ KK x := ⟨_, _, _, _, rfl, R.ins.cl, R.n4, fix_tl nWR (fix_tl nWO (fix_tl nWH fix_hd)), h⟩
theorem setNG (cl : Cls K C) (na : NoAttr K C f) (hc : ns.contains f = false) (hb : Nat.ble ns.length 900 = true) (h : N ((x, .ins C (ns ++ [f]) (ds ++ [d])) :: m0)) : ∃ p C' ns' ds' m3, D.ref x = .ref p ∧ At ((x, MO.ins C ns ds) :: m0) p (.ins C' ns' ds') ∧ Cls K C' ∧ NoAttr K C' f ∧ ns'.contains f = false ∧ Nat.ble ns'.length 900 = true ∧ Put ((x, MO.ins C ns ds) :: m0) p (.ins C' (ns' ++ [f]) (ds' ++ [d])) m3 ∧ N m3 :=
  ⟨_, _, _, _, _, rfl, .head, cl, na, hc, hb, .head, h⟩
end
def S_shape : SpecD := fun ds m K _ => ∃ rows w, ds = [lli rows] ∧ Rect rows w ∧ K .non m
def S_cdiv : SpecD := fun ds m K _ => ∃ rows over, ds = [lli rows, .int over] ∧ 0 < over ∧ K (.int (gcv rows over : Nat)) m
def S_gmake (C : Addr) : SpecD := fun ds m K _ => ∃ x m0 rows over w, ds = [.ref x, lli rows, .int over] ∧ m = (x, .ins C [] []) :: m0 ∧ Rect rows w ∧ 0 < over ∧ Bd 8000 over ∧
  K .non ((x, .ins C gN [tti (redR rows (gcv rows over)), .int (over / (gcv rows over : Int)), .int (rows.length : Nat), .int (w : Nat)]) :: m0)
structure GrdA (rows : List (List Int)) (over : Int) (w : Nat) (K : Prop) : Prop where
  rc : Rect rows w
  op : 0 < over
  ob : Bd 8000 over
  k : K
section
variable {W : WX} {E : ET} {ta : TA} {r : Rho} {m : Mu} {K : KT} {C : Addr} {F : Ex → Mu → Prop} {rows : List (List Int)} {over : Int} {w : Nat}
theorem we_grd (h : Wa W E ta r m fun ds m1 => ∃ rows over w, ds = [lli rows, .int over] ∧ GrdA rows over w (K (gdm C rows over w) m1)) : We W E (tMk C 3 (S_gmake C) [] W ta) r m K :=
  we_mk0 (h.imp fun ds m1 ⟨rows, over, w, e, ⟨rc, op, ob, k⟩⟩ => by
    subst e
    refine ⟨rfl, fun x _ => ⟨x, m1, rows, over, w, rfl, rfl, rc, op, ob, _, _, rfl, rfl, ?_⟩⟩
    have e : rows.length = (redR rows (gcv rows over)).length := redR_len.symm
    rw [e]
    exact k)
theorem use_shape (h : Rect rows w) (k : K .non m) : S_shape [lli rows] m K F := ⟨rows, w, rfl, h, k⟩
theorem use_cdiv (h : 0 < over) (k : K (.int (gcv rows over : Nat)) m) : S_cdiv [lli rows, .int over] m K F := ⟨rows, over, rfl, h, k⟩
end
/-! ### products -/
theorem SeqM.len {d : D} {m : Mu} {ps : List Addr} {xs : List D} : SeqM d m ps xs → LenD d m xs.length
  | .lst => .lst
  | .tup => .tup
  | .mutb h => .mutb h
theorem SeqM.cons {d : D} {m : Mu} {ps : List Addr} {xs : List D} {q : Addr × MO} : SeqM d m ps xs → SeqM d (q :: m) ps xs
  | .lst => .lst
  | .tup => .tup
  | .mutb h => .mutb (.tail h)
def dot (xs ys : List Int) : Int := ((xs.zip ys).map fun p => p.1 * p.2).sum
def formV (rows : List (List Int)) (x y : List Int) : Int := ((x.zip rows).map fun p => p.1 * dot p.2 y).sum
theorem bd_sum {n : Nat} : ∀ {xs : List Int}, (∀ x ∈ xs, Bd n x) → Bd (n + xs.length) xs.sum
  | [], _ => Nat.two_pow_pos _
  | x :: xs, h => by
    have h1 := h x (List.mem_cons_self ..)
    have h2 := bd_sum (xs := xs) fun y hy => h y (List.mem_cons_of_mem _ hy)
    rw [List.sum_cons]
    exact ((h1.mono (Nat.le_add_right n xs.length)).add h2).mono (by simp; omega)
theorem dot_bd {a b : Nat} {xs ys : List Int} (hx : ∀ x ∈ xs, Bd a x) (hy : ∀ y ∈ ys, Bd b y) : Bd (a + b + xs.length) (dot xs ys) := by
  have h : Bd (a + b + ((xs.zip ys).map fun p => p.1 * p.2).length) (dot xs ys) := bd_sum fun z hz => by
    obtain ⟨p, hp, rfl⟩ := List.mem_map.mp hz
    obtain ⟨h1, h2⟩ := List.of_mem_zip hp
    exact (hx _ h1).mul (hy _ h2)
  refine h.mono ?_
  rw [List.length_map, List.length_zip]
  omega
/-- numbers of a size -/
def SzL (a : Nat) (xs : List Int) : Prop := ∀ x ∈ xs, Bd a x
def SzT (a : Nat) (rows : List (List Int)) : Prop := ∀ r ∈ rows, SzL a r
structure FrmA (rows : List (List Int)) (over : Int) (w : Nat) (left right : List Int) (K : Prop) : Prop where
  ll : left.length = rows.length
  lr : right.length = w
  rc : ∀ r ∈ rows, r.length = w
  wl : w ≤ 64
  op : over ≠ 0
  ob : Bd 8000 over
  sr : SzT 8000 rows
  s1 : SzL 8000 left
  s2 : SzL 8000 right
  k : K
def S_form (C R : Addr) : SpecD := fun ds m K _ => ∃ rows over w left right dl dr pl pr, ds = [gd C rows over w, dl, dr] ∧ SeqM dl m pl (left.map .int) ∧ SeqM dr m pr (right.map .int) ∧ FrmA rows over w left right (K (rq R (dv (formV rows left right) over)) m)
theorem use_form {C R : Addr} {m : Mu} {K : KT} {F : Ex → Mu → Prop} {rows : List (List Int)} {over : Int} {w : Nat} {left right : List Int} {dl dr : D} {pl pr : List Addr} (h1 : SeqM dl m pl (left.map .int)) (h2 : SeqM dr m pr (right.map .int)) (h : FrmA rows over w left right (K (rq R (dv (formV rows left right) over)) m)) :
    S_form C R [gd C rows over w, dl, dr] m K F := ⟨_, _, _, _, _, _, _, _, _, rfl, h1, h2, h⟩
theorem formV_snoc {rows : List (List Int)} {x y : List Int} {i : Nat} {p : Int × List Int} (h : (x.zip rows)[i]? = some p) : (((x.zip rows).take (i + 1)).map fun p => p.1 * dot p.2 y).sum = (((x.zip rows).take i).map fun p => p.1 * dot p.2 y).sum + p.1 * dot p.2 y := by
  rw [List.take_add_one, h]
  simp
/-! ### places -/
theorem ix_map {α : Type} [Inhabited α] {l : List α} {f : α → D} {i : Nat} (h : i < l.length) : atI (l.map f) (i : Int) = some (f l[i]!) :=
  atI_get (by rw [List.getElem?_map, getElem!_pos l i h, List.getElem?_eq_getElem h]; rfl)
theorem ix_map0 {α : Type} [Inhabited α] {l : List α} {f : α → D} (h : 0 < l.length) : atI (l.map f) 0 = some (f l[0]!) := ix_map (i := 0) h
theorem mem_at {α : Type} [Inhabited α] {l : List α} {i : Nat} (h : i < l.length) : l[i]! ∈ l := by
  rw [getElem!_pos l i h]
  exact List.getElem_mem h
/-- the number at a place -/
abbrev ce (rows : List (List Int)) (i j : Nat) : Int := (rows[i]!)[j]!
def SymR (n : Nat) (rows : List (List Int)) : Prop := ∀ i j, i < n → j < n → ce rows i j = ce rows j i
/-- the first place that differs from its opposite -/
structure FstA (n : Nat) (rows : List (List Int)) (i j : Nat) : Prop where
  hi : i < n
  hj : j < n
  ne : ce rows i j ≠ ce rows j i
  fst : ∀ i' j', i' < n → j' < n → (i' < i ∨ (i' = i ∧ j' < j)) → ce rows i' j' = ce rows j' i'
def S_csym (C Z1 Z2 : Addr) : SpecD := fun ds m K E => ∃ rows over w, ds = [gd C rows over w] ∧ (∀ r ∈ rows, r.length = w) ∧ rows.length ≤ 64 ∧ w ≤ 64 ∧
  ((rows.length ≠ w ∧ E ⟨Z1, [], []⟩ m) ∨ (rows.length = w ∧ SymR w rows ∧ K .non m) ∨ (rows.length = w ∧ ∃ i j, FstA w rows i j ∧ E ⟨Z2, ["column", "row"], [.int (j : Nat), .int (i : Nat)]⟩ m))
end DL
set_option Elab.async false
set_option linter.all false
set_option maxRecDepth 100000
/-! DB: loads and books. -/
namespace DL
open PySem PySem.Spec L2
open PyProof.Rows hiding St
open SX (S)
abbrev lN : List Str := ["label", "weight", "numbers"]
abbrev bN : List Str := ["width", "loads", "_places"]
structure LoadC (K : PySem.W.Frag) (C : Addr) : Prop where
  ins : InsK K C
  n1 : NoAttr K C "label"
  n2 : NoAttr K C "weight"
  n3 : NoAttr K C "numbers"
structure BookC (K : PySem.W.Frag) (C : Addr) : Prop where
  ins : InsK K C
  n1 : NoAttr K C "width"
  n2 : NoAttr K C "loads"
  n3 : NoAttr K C "_places"
theorem nWL : ¬ (("weight" : Str) = "label") := by decide +kernel
theorem nNL : ¬ (("numbers" : Str) = "label") := by decide +kernel
theorem nNW : ¬ (("numbers" : Str) = "weight") := by decide +kernel
theorem nLW : ¬ (("loads" : Str) = "width") := by decide +kernel
theorem nPW : ¬ (("_places" : Str) = "width") := by decide +kernel
theorem nPL : ¬ (("_places" : Str) = "loads") := by decide +kernel
section
variable {K : PySem.W.Frag} {C : Addr} {KK : D → Prop} {a b c : D}
theorem fld_label (R : LoadC K C) (h : KK a) : ∃ C' ns ds x, D.ins C lN [a, b, c] = .ins C' ns ds ∧ Cls K C' ∧ NoAttr K C' "label" ∧ fix "label" ns ds = some x ∧ KK x := ⟨_, _, _, _, rfl, R.ins.cl, R.n1, fix_hd, h⟩
theorem fld_weight (R : LoadC K C) (h : KK b) : ∃ C' ns ds x, D.ins C lN [a, b, c] = .ins C' ns ds ∧ Cls K C' ∧ NoAttr K C' "weight" ∧ fix "weight" ns ds = some x ∧ KK x := ⟨_, _, _, _, rfl, R.ins.cl, R.n2, fix_tl nWL fix_hd, h⟩
theorem fld_numbers (R : LoadC K C) (h : KK c) : ∃ C' ns ds x, D.ins C lN [a, b, c] = .ins C' ns ds ∧ Cls K C' ∧ NoAttr K C' "numbers" ∧ fix "numbers" ns ds = some x ∧ KK x := ⟨_, _, _, _, rfl, R.ins.cl, R.n3, fix_tl nNL (fix_tl nNW fix_hd), h⟩
theorem fld_bwidth (R : BookC K C) (h : KK a) : ∃ C' ns ds x, D.ins C bN [a, b, c] = .ins C' ns ds ∧ Cls K C' ∧ NoAttr K C' "width" ∧ fix "width" ns ds = some x ∧ KK x := ⟨_, _, _, _, rfl, R.ins.cl, R.n1, fix_hd, h⟩
theorem fld_loads (R : BookC K C) (h : KK b) : ∃ C' ns ds x, D.ins C bN [a, b, c] = .ins C' ns ds ∧ Cls K C' ∧ NoAttr K C' "loads" ∧ fix "loads" ns ds = some x ∧ KK x := ⟨_, _, _, _, rfl, R.ins.cl, R.n2, fix_tl nLW fix_hd, h⟩
theorem fld_places (R : BookC K C) (h : KK c) : ∃ C' ns ds x, D.ins C bN [a, b, c] = .ins C' ns ds ∧ Cls K C' ∧ NoAttr K C' "_places" ∧ fix "_places" ns ds = some x ∧ KK x := ⟨_, _, _, _, rfl, R.ins.cl, R.n3, fix_tl nPW (fix_tl nPL fix_hd), h⟩
end
/-- a load: its label, weight, numbers -/
structure Ld where
  lab : List Nat
  wt : Rat
  nums : List Int
abbrev ldD (CL CR : Addr) (a : Ld) : D := .ins CL lN [ts a.lab, rq CR a.wt, tup a.nums]
def plc (ls : List Ld) : List (Key × D) := ls.zipIdx.map fun p => (Sum.inr (S p.1.lab), .int (p.2 : Nat))
abbrev bkD (CB CL CR : Addr) (w : Nat) (ls : List Ld) : D := .ins CB bN [.int (w : Nat), .tup (ls.map (ldD CL CR)), .dic (plc ls)]
abbrev ALN : List Nat := [97, 98, 99, 100, 101, 102, 103, 104, 105, 106, 107, 108, 109, 110, 111, 112, 113, 114, 115, 116, 117, 118, 119, 120, 121, 122]
abbrev DGT : List Nat := [48, 49, 50, 51, 52, 53, 54, 55, 56, 57]
/-- a label -/
def LabOk (l : List Nat) : Prop := 1 ≤ l.length ∧ l.length ≤ 8 ∧ ∀ c ∈ l, c ∈ ALN ∨ c ∈ DGT
structure LdOk (a : Ld) : Prop where
  lab : LabOk a.lab
  wt : 0 < a.wt
  n1 : 1 ≤ a.nums.length
  n2 : a.nums.length ≤ 12
  nb : ∀ x ∈ a.nums, -9999 ≤ x ∧ x ≤ 9999
structure BkOk (w : Nat) (ls : List Ld) : Prop where
  w1 : 1 ≤ w
  w2 : w ≤ 12
  len : ls.length ≤ 200
  ok : ∀ a ∈ ls, LdOk a
  wid : ∀ a ∈ ls, a.nums.length = w
  nd : (ls.map (·.lab)).Nodup
theorem plc_nil : plc [] = [] := rfl
theorem plc_snoc {ls : List Ld} {a : Ld} : plc (ls ++ [a]) = plc ls ++ [(Sum.inr (S a.lab), .int (ls.length : Nat))] := by
  unfold plc
  rw [List.zipIdx_append, List.map_append]
  simp
theorem plc_val {l : List Nat} : ∀ {ls : List Ld}, l ∉ ls.map (·.lab) → valD (plc ls) (Sum.inr (S l)) = none := by
  intro ls h
  cases e : valD (plc ls) (Sum.inr (S l)) with
  | none => rfl
  | some d =>
    exfalso
    unfold valD at e
    obtain ⟨p, hp, _⟩ := Option.map_eq_some_iff.mp e
    have h1 := List.find?_some hp
    have h2 := List.mem_of_find?_eq_some hp
    obtain ⟨q, hq, rfl⟩ := List.mem_map.mp h2
    have h3 : Sum.inr (S q.1.lab) = (Sum.inr (S l) : Key) := of_decide_eq_true h1
    injection h3 with h3
    have h4 := SX.S_inj h3
    have h5 := List.mem_zipIdx hq
    have h6 : q.1 ∈ ls := by
      obtain ⟨i, hi⟩ := q
      exact (List.mem_zipIdx hq).2.2 ▸ List.getElem_mem _
    exact h (List.mem_map.mpr ⟨q.1, h6, h4⟩)
end DL
set_option Elab.async false
set_option linter.all false
set_option maxRecDepth 100000
/-! DL24: cuts of lists that were made by a function; stores in another order; lists appended to. -/
namespace DL
open PySem PySem.Spec L2
open PyProof.Rows hiding St
theorem sIx_nat {n : Nat} {j : Nat} {d : Nat} : HT.sIx n d (some (j : Int)) = min j n := by
  unfold HT.sIx
  dsimp only
  rw [if_neg (by omega)]
  omega
theorem cutD_pre {xs : List D} {j : Nat} : cutD xs none (some (j : Int)) = xs.take j := by
  unfold cutD
  rw [sIx_nat]
  have e : HT.sIx xs.length 0 none = 0 := rfl
  rw [e, List.drop_zero, Nat.sub_zero]
  by_cases h : j ≤ xs.length
  · rw [Nat.min_eq_left h]
  · rw [Nat.min_eq_right (by omega), List.take_length, List.take_of_length_le (by omega)]
theorem cutD_suf {xs : List D} {j : Nat} : cutD xs (some (j : Int)) none = xs.drop j := by
  unfold cutD
  rw [sIx_nat]
  have e : HT.sIx xs.length xs.length none = xs.length := rfl
  rw [e]
  by_cases h : j ≤ xs.length
  · rw [Nat.min_eq_left h, List.take_of_length_le (by rw [List.length_drop]; omega)]
  · rw [Nat.min_eq_right (by omega), List.drop_length, List.drop_of_length_le (by omega)]
    simp
section
variable {W : WX} {E : ET} {r : Rho} {m m2 : Mu} {K : KT} {G : Gx} {te t2 : TE} {t : TS} {P : DEnds}
structure SlA (j : Int) (K : Prop) : Prop where
  nn : 0 ≤ j
  k : K
/-- xs[:j] -/
theorem we_slPre (h : We W E te r m fun d m1 => ∃ (α : Type) (l : List α) (f : α → D), d = .lst (l.map f) ∧ We W E t2 r m1 fun i m2 => ∃ j : Int, i = .int j ∧ SlA j (K (.lst ((l.take j.toNat).map f)) m2)) :
    We W E (tSl (rSlL G.K) te tNoPart (tPart t2)) r m K :=
  we_slL (h.imp fun d m1 ⟨α, l, f, e, h2⟩ => ⟨_, e, wo_none (wo_some (h2.imp fun i m2 ⟨j, e2, ⟨h0, k⟩⟩ => ⟨j, e2, by
    obtain ⟨n, rfl⟩ := Int.eq_ofNat_of_zero_le h0
    rw [cutD_pre, ← List.map_take]
    exact k⟩))⟩)
/-- xs[j:] -/
theorem we_slSuf (h : We W E te r m fun d m1 => ∃ (α : Type) (l : List α) (f : α → D), d = .lst (l.map f) ∧ We W E t2 r m1 fun i m2 => ∃ j : Int, i = .int j ∧ SlA j (K (.lst ((l.drop j.toNat).map f)) m2)) :
    We W E (tSl (rSlL G.K) te (tPart t2) tNoPart) r m K :=
  we_slL (h.imp fun d m1 ⟨α, l, f, e, h2⟩ => ⟨_, e, wo_some (h2.imp fun i m2 ⟨j, e2, ⟨h0, k⟩⟩ => ⟨j, e2, wo_none (by
    obtain ⟨n, rfl⟩ := Int.eq_ofNat_of_zero_le h0
    rw [cutD_suf, ← List.map_drop]
    exact k)⟩)⟩)
theorem Ws.perm (p : m.Perm m2) (h : Ws W E t r m2 P) : Ws W E t r m P := fun s H De e z g => by
  obtain ⟨mu, hd⟩ := e.mu.perm p
  have e2 : EnvR r m2 s H := ⟨by rw [hd]; exact e.env, mu⟩
  have z2 : Rz W E m2 H := fun x r' m' cls dd s' H' a => z x r' m' cls dd s' H' (by rw [← hd]; exact a)
  exact h s H De e2 z2 ⟨fun r' m' s' H' a => g.nx r' m' s' H' (by rw [← hd]; exact a), fun d m' v H' a => g.rt d m' v H' (by rw [← hd]; exact a), fun r' m' s' H' a => g.bk r' m' s' H' (by rw [← hd]; exact a), fun r' m' s' H' a => g.ct r' m' s' H' (by rw [← hd]; exact a)⟩
end
theorem perm_mat {t : Addr} {qs : List Addr} {xss : List (List D)} {q : Addr × MO} {m : Mu} : (matM t qs xss (q :: m)).Perm (q :: matM t qs xss m) := by
  rw [matM_eq, matM_eq]
  exact List.perm_middle
theorem frz_in {own : Mu} {t : Addr} {qs : List Addr} {xss : List (List D)} (h : qs.length = xss.length) (k : ∀ q ∈ matO t qs xss, At own q.1 q.2) : Frz own (.ref t) (.lst (xss.map .lst)) :=
  .ref (k (t, _) (List.mem_append_right _ (List.mem_cons_self ..))) (frz_rows h fun q hq => k q (List.mem_append_left _ hq))
theorem frz_mat1 {t : Addr} {qs : List Addr} {xss : List (List D)} {q : Addr × MO} {m : Mu} (h : qs.length = xss.length) : Frz (q :: matM t qs xss m) (.ref t) (.lst (xss.map .lst)) :=
  frz_in h fun p hp => .tail (by rw [matM_eq]; exact (At.of_mem hp).app)
end DL
set_option Elab.async false
set_option linter.all false
set_option maxRecDepth 100000
/-! DL25: == of lists and tables of whole numbers. -/
namespace DL
open PySem PySem.Spec L2
open PyProof.Rows hiding St
theorem pds_ints : ∀ xs : List Int, PDs (xs.map D.int) (xs.map PyData.int)
  | [] => .nil
  | x :: xs => .cons (.int x) (pds_ints xs)
theorem pd_li (xs : List Int) : PD (li xs) (.list (xs.map PyData.int)) := .lst (pds_ints xs)
theorem pd_tup (xs : List Int) : PD (tup xs) (.tuple (xs.map PyData.int)) := .tup (pds_ints xs)
def pdR (rows : List (List Int)) : List PyData := rows.map fun r => .list (r.map PyData.int)
theorem pds_rows : ∀ rows : List (List Int), PDs (rows.map li) (pdR rows)
  | [] => .nil
  | r :: rows => .cons (pd_li r) (pds_rows rows)
theorem pd_lli (rows : List (List Int)) : PD (lli rows) (.list (pdR rows)) := .lst (pds_rows rows)
theorem eqv_ints : ∀ xs ys : List Int, PyData.eqvAll (xs.map PyData.int) (ys.map PyData.int) = decide (xs = ys)
  | [], [] => by simp [PyData.eqvAll]
  | [], _ :: _ => by simp [PyData.eqvAll]
  | _ :: _, [] => by simp [PyData.eqvAll]
  | a :: xs, b :: ys => by
    simp only [List.map_cons, PyData.eqvAll, PyData.eqv, eqv_ints xs ys]
    by_cases h : a = b <;> by_cases h' : xs = ys <;> simp [h, h']
theorem eqv_rows : ∀ xs ys : List (List Int), PyData.eqvAll (pdR xs) (pdR ys) = decide (xs = ys)
  | [], [] => by simp [pdR, PyData.eqvAll]
  | [], _ :: _ => by simp [pdR, PyData.eqvAll]
  | _ :: _, [] => by simp [pdR, PyData.eqvAll]
  | a :: xs, b :: ys => by
    have ih := eqv_rows xs ys
    unfold pdR at *
    simp only [List.map_cons, PyData.eqvAll, PyData.eqv, ih, eqv_ints a b]
    by_cases h : a = b <;> by_cases h' : xs = ys <;> simp [h, h']
theorem lay_ints : ∀ xs : List Int, PyData.canLayAll0 (xs.map PyData.int) = true
  | [] => by simp [PyData.canLayAll0]
  | x :: xs => by simp [PyData.canLayAll0, PyData.canLay0, lay_ints xs]
theorem lay_rows : ∀ xs : List (List Int), PyData.canLayAll0 (pdR xs) = true
  | [] => by simp [pdR, PyData.canLayAll0]
  | x :: xs => by
    have ih := lay_rows xs
    unfold pdR at *
    simp [PyData.canLayAll0, PyData.canLay0, ih, lay_ints x]
theorem dep_ints : ∀ xs : List Int, PyData.depthAll (xs.map PyData.int) ≤ 1
  | [] => by simp [PyData.depthAll]
  | x :: xs => by
    have := dep_ints xs
    simp [PyData.depthAll, PyData.depth]
    omega
theorem dep_rows : ∀ xs : List (List Int), PyData.depthAll (pdR xs) ≤ 3
  | [] => by simp [pdR, PyData.depthAll]
  | x :: xs => by
    have h := dep_rows xs
    have h2 := dep_ints x
    unfold pdR at *
    simp [PyData.depthAll, PyData.depth]
    omega
theorem sh_li (xs : List Int) : PySem.SeqAt.shaped (.list (xs.map PyData.int)) = true := by
  have := dep_ints xs
  simp [PySem.SeqAt.shaped, PyData.canLay0, lay_ints xs, PyData.depth]
  omega
theorem sh_tup (xs : List Int) : PySem.SeqAt.shaped (.tuple (xs.map PyData.int)) = true := by
  have := dep_ints xs
  simp [PySem.SeqAt.shaped, PyData.canLay0, lay_ints xs, PyData.depth]
  omega
theorem sh_lli (xs : List (List Int)) : PySem.SeqAt.shaped (.list (pdR xs)) = true := by
  have := dep_rows xs
  simp [PySem.SeqAt.shaped, PyData.canLay0, lay_rows xs, PyData.depth]
  omega
section
variable {W : WX} {E : ET} {r : Rho} {m : Mu} {K : KT} {G : Gx} {j : Nat}
theorem w2_eqLi {xs ys : List Int} (h : K (.bl (decide (xs = ys))) m) : W2 W E (oEqF G j W) (li xs) (li ys) r m K :=
  w2_eqFD (pd_li xs) (pd_li ys) (sh_li xs) (sh_li ys) (by rw [PyData.eqv, eqv_ints]; exact h)
theorem w2_eqTup {xs ys : List Int} (h : K (.bl (decide (xs = ys))) m) : W2 W E (oEqF G j W) (tup xs) (tup ys) r m K :=
  w2_eqFD (pd_tup xs) (pd_tup ys) (sh_tup xs) (sh_tup ys) (by rw [PyData.eqv, eqv_ints]; exact h)
theorem w2_eqLli {xs ys : List (List Int)} (h : K (.bl (decide (xs = ys))) m) : W2 W E (oEqF G j W) (lli xs) (lli ys) r m K :=
  w2_eqFD (pd_lli xs) (pd_lli ys) (sh_lli xs) (sh_lli ys) (by rw [PyData.eqv, eqv_rows]; exact h)
theorem w2_eqRN {xs : List (List Int)} (h : K (.bl (decide (xs = []))) m) : W2 W E (oEqF G j W) (lli xs) (.lst []) r m K := w2_eqLli (ys := []) h
theorem w2_eqLN {xs : List Int} (h : K (.bl (decide (xs = []))) m) : W2 W E (oEqF G j W) (li xs) (.lst []) r m K := w2_eqLi (ys := []) h
end
end DL
set_option Elab.async false
set_option linter.all false
set_option maxRecDepth 100000
/-! DQ4: Ratio's powers; Bars. -/
namespace DL
open PySem PySem.Spec L2
open PyProof.Rows hiding St
section
variable {W : WX} {E : ET} {ta : TA} {r : Rho} {m : Mu} {K : KT} {C Z : Addr} {F : Ex → Mu → Prop} {x y : Rat} {G : Gx} {j k : Nat}
/-! ### powers -/
theorem dv_pow (a b : Int) : ∀ n : Nat, dv (a ^ n) (b ^ n) = (dv a b) ^ n
  | 0 => by
    rw [Int.pow_zero, Int.pow_zero, Rat.pow_zero]
    rfl
  | n + 1 => by
    rw [Rat.pow_succ, ← dv_pow a b n, mul_dv, Int.pow_succ, Int.pow_succ]
theorem pow_ne_zeroI {x : Int} (h : x ≠ 0) : ∀ n : Nat, x ^ n ≠ 0
  | 0 => by rw [Int.pow_zero]; decide
  | n + 1 => by rw [Int.pow_succ]; exact Int.mul_ne_zero (pow_ne_zeroI h n) h
theorem Bd.pow {a : Nat} {x : Int} (h : Bd a x) : ∀ n : Nat, Bd (n * a + 1) (x ^ n)
  | 0 => by
    rw [Int.pow_zero]
    exact (bd_lit (n := 1) (by decide)).mono (by omega)
  | n + 1 => by
    rw [Int.pow_succ]
    exact ((Bd.pow h n).mul h).mono (by rw [Nat.succ_mul]; omega)
def S_qraised (C Z : Addr) : SpecD := fun ds m K E => ∃ x n a, ds = [rq C x, .int n] ∧ Qb a x ∧ a ≤ 100 ∧
  ((¬ (0 ≤ n ∧ n ≤ 64) ∧ E ⟨Z, ["value"], [.int n]⟩ m) ∨ (0 ≤ n ∧ n ≤ 64 ∧ K (rq C (x ^ n.toNat)) m))
theorem use_qraised {n : Int} {a : Nat} (h : Qb a x) (ha : a ≤ 100) (h0 : 0 ≤ n) (h1 : n ≤ 64) (q : K (rq C (x ^ n.toNat)) m) : S_qraised C Z [rq C x, .int n] m K F := ⟨x, n, a, rfl, h, ha, .inr ⟨h0, h1, q⟩⟩
end
end DL
set_option Elab.async false
set_option linter.all false
set_option maxRecDepth 100000
set_option maxHeartbeats 4000000
namespace K22
open PySem PySem.Spec L2 DL
open PyProof.Rows hiding St
open SX (S)
def top (i : Nat) : Stmt := PySem.Challenge.pw_fewcarry_k22_condensed.main.body.getD i (.Pass ⟨0, 0, 0, 0⟩)
abbrev s_OutOfBounds___init__ : Stmt := inClass (top 5) 0
abbrev s_is_label : Stmt := top 20
abbrev s_Ratio___init__ : Stmt := inClass (top 25) 0
abbrev s_Ratio___add__ : Stmt := inClass (top 25) 4
abbrev s_Ratio___mul__ : Stmt := inClass (top 25) 6
abbrev s_Ratio___pow__ : Stmt := inClass (top 25) 9
abbrev s_Ratio_raised : Stmt := inClass (top 25) 10
abbrev s_Ratio_sign : Stmt := inClass (top 25) 13
abbrev s_row_times : Stmt := top 29
abbrev s_Load___init__ : Stmt := inClass (top 30) 0
abbrev s_Book___init__ : Stmt := inClass (top 52) 0
abbrev s_Book___len__ : Stmt := inClass (top 52) 3
abbrev s_Book_energy : Stmt := inClass (top 52) 12
abbrev s__whole_weights : Stmt := top 53
abbrev s_condensed : Stmt := top 55
abbrev s__split : Stmt := top 56
abbrev s__law_digit : Stmt := top 58
abbrev s__law_draw_labels : Stmt := top 59
abbrev s__law_draw_weight : Stmt := top 60
abbrev s__law_draw_base : Stmt := top 61
abbrev s__law_draw_rows : Stmt := top 62
abbrev s__law_draw_direction : Stmt := top 63
abbrev s__law_whole : Stmt := top 64
abbrev s__law_gcd : Stmt := top 65
abbrev s__law_alike : Stmt := top 66
abbrev s__law_own_energy : Stmt := top 67
abbrev s__law_made : Stmt := top 68
abbrev s__law_numbers_told : Stmt := top 69
abbrev s__law_load_told : Stmt := top 70
abbrev s__law_same : Stmt := top 71
abbrev s__law_parallel : Stmt := top 72
abbrev s__law_own_condensed : Stmt := top 73
abbrev s_law : Stmt := top 74

theorem nd_self : (("self" : Str) == ("__debug__" : Str)) = false ∧ (("self" : Str) == ("__classdict__" : Str)) = false := ⟨by decide +kernel, by decide +kernel⟩
theorem nd_value : (("value" : Str) == ("__debug__" : Str)) = false ∧ (("value" : Str) == ("__classdict__" : Str)) = false := ⟨by decide +kernel, by decide +kernel⟩
theorem nd_text : (("text" : Str) == ("__debug__" : Str)) = false ∧ (("text" : Str) == ("__classdict__" : Str)) = false := ⟨by decide +kernel, by decide +kernel⟩
theorem nd_char : (("char" : Str) == ("__debug__" : Str)) = false ∧ (("char" : Str) == ("__classdict__" : Str)) = false := ⟨by decide +kernel, by decide +kernel⟩
theorem nd_top : (("top" : Str) == ("__debug__" : Str)) = false ∧ (("top" : Str) == ("__classdict__" : Str)) = false := ⟨by decide +kernel, by decide +kernel⟩
theorem nd_bottom : (("bottom" : Str) == ("__debug__" : Str)) = false ∧ (("bottom" : Str) == ("__classdict__" : Str)) = false := ⟨by decide +kernel, by decide +kernel⟩
theorem nd_shared : (("shared" : Str) == ("__debug__" : Str)) = false ∧ (("shared" : Str) == ("__classdict__" : Str)) = false := ⟨by decide +kernel, by decide +kernel⟩
theorem nd_other : (("other" : Str) == ("__debug__" : Str)) = false ∧ (("other" : Str) == ("__classdict__" : Str)) = false := ⟨by decide +kernel, by decide +kernel⟩
theorem nd_n : (("n" : Str) == ("__debug__" : Str)) = false ∧ (("n" : Str) == ("__classdict__" : Str)) = false := ⟨by decide +kernel, by decide +kernel⟩
theorem nd__ : (("_" : Str) == ("__debug__" : Str)) = false ∧ (("_" : Str) == ("__classdict__" : Str)) = false := ⟨by decide +kernel, by decide +kernel⟩
theorem nd_row : (("row" : Str) == ("__debug__" : Str)) = false ∧ (("row" : Str) == ("__classdict__" : Str)) = false := ⟨by decide +kernel, by decide +kernel⟩
theorem nd_direction : (("direction" : Str) == ("__debug__" : Str)) = false ∧ (("direction" : Str) == ("__classdict__" : Str)) = false := ⟨by decide +kernel, by decide +kernel⟩
theorem nd_number : (("number" : Str) == ("__debug__" : Str)) = false ∧ (("number" : Str) == ("__classdict__" : Str)) = false := ⟨by decide +kernel, by decide +kernel⟩
theorem nd_step : (("step" : Str) == ("__debug__" : Str)) = false ∧ (("step" : Str) == ("__classdict__" : Str)) = false := ⟨by decide +kernel, by decide +kernel⟩
theorem nd_label : (("label" : Str) == ("__debug__" : Str)) = false ∧ (("label" : Str) == ("__classdict__" : Str)) = false := ⟨by decide +kernel, by decide +kernel⟩
theorem nd_weight : (("weight" : Str) == ("__debug__" : Str)) = false ∧ (("weight" : Str) == ("__classdict__" : Str)) = false := ⟨by decide +kernel, by decide +kernel⟩
theorem nd_numbers : (("numbers" : Str) == ("__debug__" : Str)) = false ∧ (("numbers" : Str) == ("__classdict__" : Str)) = false := ⟨by decide +kernel, by decide +kernel⟩
theorem nd_width : (("width" : Str) == ("__debug__" : Str)) = false ∧ (("width" : Str) == ("__classdict__" : Str)) = false := ⟨by decide +kernel, by decide +kernel⟩
theorem nd_loads : (("loads" : Str) == ("__debug__" : Str)) = false ∧ (("loads" : Str) == ("__classdict__" : Str)) = false := ⟨by decide +kernel, by decide +kernel⟩
theorem nd_places : (("places" : Str) == ("__debug__" : Str)) = false ∧ (("places" : Str) == ("__classdict__" : Str)) = false := ⟨by decide +kernel, by decide +kernel⟩
theorem nd_at : (("at" : Str) == ("__debug__" : Str)) = false ∧ (("at" : Str) == ("__classdict__" : Str)) = false := ⟨by decide +kernel, by decide +kernel⟩
theorem nd_entry : (("entry" : Str) == ("__debug__" : Str)) = false ∧ (("entry" : Str) == ("__classdict__" : Str)) = false := ⟨by decide +kernel, by decide +kernel⟩
theorem nd_weights : (("weights" : Str) == ("__debug__" : Str)) = false ∧ (("weights" : Str) == ("__classdict__" : Str)) = false := ⟨by decide +kernel, by decide +kernel⟩
theorem nd_over : (("over" : Str) == ("__debug__" : Str)) = false ∧ (("over" : Str) == ("__classdict__" : Str)) = false := ⟨by decide +kernel, by decide +kernel⟩
theorem nd_total : (("total" : Str) == ("__debug__" : Str)) = false ∧ (("total" : Str) == ("__classdict__" : Str)) = false := ⟨by decide +kernel, by decide +kernel⟩
theorem nd_book : (("book" : Str) == ("__debug__" : Str)) = false ∧ (("book" : Str) == ("__classdict__" : Str)) = false := ⟨by decide +kernel, by decide +kernel⟩
theorem nd_kept : (("kept" : Str) == ("__debug__" : Str)) = false ∧ (("kept" : Str) == ("__classdict__" : Str)) = false := ⟨by decide +kernel, by decide +kernel⟩
theorem nd_content : (("content" : Str) == ("__debug__" : Str)) = false ∧ (("content" : Str) == ("__classdict__" : Str)) = false := ⟨by decide +kernel, by decide +kernel⟩
theorem nd_primitive : (("primitive" : Str) == ("__debug__" : Str)) = false ∧ (("primitive" : Str) == ("__classdict__" : Str)) = false := ⟨by decide +kernel, by decide +kernel⟩
theorem nd_first : (("first" : Str) == ("__debug__" : Str)) = false ∧ (("first" : Str) == ("__classdict__" : Str)) = false := ⟨by decide +kernel, by decide +kernel⟩
theorem nd_first_content : (("first_content" : Str) == ("__debug__" : Str)) = false ∧ (("first_content" : Str) == ("__classdict__" : Str)) = false := ⟨by decide +kernel, by decide +kernel⟩
theorem nd_multiple : (("multiple" : Str) == ("__debug__" : Str)) = false ∧ (("multiple" : Str) == ("__classdict__" : Str)) = false := ⟨by decide +kernel, by decide +kernel⟩
theorem nd_one : (("one" : Str) == ("__debug__" : Str)) = false ∧ (("one" : Str) == ("__classdict__" : Str)) = false := ⟨by decide +kernel, by decide +kernel⟩
theorem nd_lead : (("lead" : Str) == ("__debug__" : Str)) = false ∧ (("lead" : Str) == ("__classdict__" : Str)) = false := ⟨by decide +kernel, by decide +kernel⟩
theorem nd_pot : (("pot" : Str) == ("__debug__" : Str)) = false ∧ (("pot" : Str) == ("__classdict__" : Str)) = false := ⟨by decide +kernel, by decide +kernel⟩
theorem nd_many : (("many" : Str) == ("__debug__" : Str)) = false ∧ (("many" : Str) == ("__classdict__" : Str)) = false := ⟨by decide +kernel, by decide +kernel⟩
theorem nd_found : (("found" : Str) == ("__debug__" : Str)) = false ∧ (("found" : Str) == ("__classdict__" : Str)) = false := ⟨by decide +kernel, by decide +kernel⟩
theorem nd_fixed : (("fixed" : Str) == ("__debug__" : Str)) = false ∧ (("fixed" : Str) == ("__classdict__" : Str)) = false := ⟨by decide +kernel, by decide +kernel⟩
theorem nd_turn : (("turn" : Str) == ("__debug__" : Str)) = false ∧ (("turn" : Str) == ("__classdict__" : Str)) = false := ⟨by decide +kernel, by decide +kernel⟩
theorem nd_k : (("k" : Str) == ("__debug__" : Str)) = false ∧ (("k" : Str) == ("__classdict__" : Str)) = false := ⟨by decide +kernel, by decide +kernel⟩
theorem nd_great : (("great" : Str) == ("__debug__" : Str)) = false ∧ (("great" : Str) == ("__classdict__" : Str)) = false := ⟨by decide +kernel, by decide +kernel⟩
theorem nd_j : (("j" : Str) == ("__debug__" : Str)) = false ∧ (("j" : Str) == ("__classdict__" : Str)) = false := ⟨by decide +kernel, by decide +kernel⟩
theorem nd_signs : (("signs" : Str) == ("__debug__" : Str)) = false ∧ (("signs" : Str) == ("__classdict__" : Str)) = false := ⟨by decide +kernel, by decide +kernel⟩
theorem nd_base : (("base" : Str) == ("__debug__" : Str)) = false ∧ (("base" : Str) == ("__classdict__" : Str)) = false := ⟨by decide +kernel, by decide +kernel⟩
theorem nd_rows : (("rows" : Str) == ("__debug__" : Str)) = false ∧ (("rows" : Str) == ("__classdict__" : Str)) = false := ⟨by decide +kernel, by decide +kernel⟩
theorem nd_line : (("line" : Str) == ("__debug__" : Str)) = false ∧ (("line" : Str) == ("__classdict__" : Str)) = false := ⟨by decide +kernel, by decide +kernel⟩
theorem nd_factor : (("factor" : Str) == ("__debug__" : Str)) = false ∧ (("factor" : Str) == ("__classdict__" : Str)) = false := ⟨by decide +kernel, by decide +kernel⟩
theorem nd_pair : (("pair" : Str) == ("__debug__" : Str)) = false ∧ (("pair" : Str) == ("__classdict__" : Str)) = false := ⟨by decide +kernel, by decide +kernel⟩
theorem nd_x : (("x" : Str) == ("__debug__" : Str)) = false ∧ (("x" : Str) == ("__classdict__" : Str)) = false := ⟨by decide +kernel, by decide +kernel⟩
theorem nd_kind : (("kind" : Str) == ("__debug__" : Str)) = false ∧ (("kind" : Str) == ("__classdict__" : Str)) = false := ⟨by decide +kernel, by decide +kernel⟩
theorem nd_told : (("told" : Str) == ("__debug__" : Str)) = false ∧ (("told" : Str) == ("__classdict__" : Str)) = false := ⟨by decide +kernel, by decide +kernel⟩
theorem nd_a : (("a" : Str) == ("__debug__" : Str)) = false ∧ (("a" : Str) == ("__classdict__" : Str)) = false := ⟨by decide +kernel, by decide +kernel⟩
theorem nd_b : (("b" : Str) == ("__debug__" : Str)) = false ∧ (("b" : Str) == ("__classdict__" : Str)) = false := ⟨by decide +kernel, by decide +kernel⟩
theorem nd_rest : (("rest" : Str) == ("__debug__" : Str)) = false ∧ (("rest" : Str) == ("__classdict__" : Str)) = false := ⟨by decide +kernel, by decide +kernel⟩
theorem nd_way : (("way" : Str) == ("__debug__" : Str)) = false ∧ (("way" : Str) == ("__classdict__" : Str)) = false := ⟨by decide +kernel, by decide +kernel⟩
theorem nd_along : (("along" : Str) == ("__debug__" : Str)) = false ∧ (("along" : Str) == ("__classdict__" : Str)) = false := ⟨by decide +kernel, by decide +kernel⟩
theorem nd_due : (("due" : Str) == ("__debug__" : Str)) = false ∧ (("due" : Str) == ("__classdict__" : Str)) = false := ⟨by decide +kernel, by decide +kernel⟩
theorem nd_left : (("left" : Str) == ("__debug__" : Str)) = false ∧ (("left" : Str) == ("__classdict__" : Str)) = false := ⟨by decide +kernel, by decide +kernel⟩
theorem nd_right : (("right" : Str) == ("__debug__" : Str)) = false ∧ (("right" : Str) == ("__classdict__" : Str)) = false := ⟨by decide +kernel, by decide +kernel⟩
theorem nd_i : (("i" : Str) == ("__debug__" : Str)) = false ∧ (("i" : Str) == ("__classdict__" : Str)) = false := ⟨by decide +kernel, by decide +kernel⟩
theorem nd_others : (("others" : Str) == ("__debug__" : Str)) = false ∧ (("others" : Str) == ("__classdict__" : Str)) = false := ⟨by decide +kernel, by decide +kernel⟩
theorem nd_old : (("old" : Str) == ("__debug__" : Str)) = false ∧ (("old" : Str) == ("__classdict__" : Str)) = false := ⟨by decide +kernel, by decide +kernel⟩
theorem nd_script : (("script" : Str) == ("__debug__" : Str)) = false ∧ (("script" : Str) == ("__classdict__" : Str)) = false := ⟨by decide +kernel, by decide +kernel⟩
theorem nd_cell : (("cell" : Str) == ("__debug__" : Str)) = false ∧ (("cell" : Str) == ("__classdict__" : Str)) = false := ⟨by decide +kernel, by decide +kernel⟩
theorem nd_ways : (("ways" : Str) == ("__debug__" : Str)) = false ∧ (("ways" : Str) == ("__classdict__" : Str)) = false := ⟨by decide +kernel, by decide +kernel⟩
theorem nd_BadBook : (("BadBook" : Str) == ("__debug__" : Str)) = false ∧ (("BadBook" : Str) == ("__classdict__" : Str)) = false := ⟨by decide +kernel, by decide +kernel⟩
theorem nd_BadLabel : (("BadLabel" : Str) == ("__debug__" : Str)) = false ∧ (("BadLabel" : Str) == ("__classdict__" : Str)) = false := ⟨by decide +kernel, by decide +kernel⟩
theorem nd_BadNumber : (("BadNumber" : Str) == ("__debug__" : Str)) = false ∧ (("BadNumber" : Str) == ("__classdict__" : Str)) = false := ⟨by decide +kernel, by decide +kernel⟩
theorem nd_BadPlace : (("BadPlace" : Str) == ("__debug__" : Str)) = false ∧ (("BadPlace" : Str) == ("__classdict__" : Str)) = false := ⟨by decide +kernel, by decide +kernel⟩
theorem nd_BadShape : (("BadShape" : Str) == ("__debug__" : Str)) = false ∧ (("BadShape" : Str) == ("__classdict__" : Str)) = false := ⟨by decide +kernel, by decide +kernel⟩
theorem nd_BadWeight : (("BadWeight" : Str) == ("__debug__" : Str)) = false ∧ (("BadWeight" : Str) == ("__classdict__" : Str)) = false := ⟨by decide +kernel, by decide +kernel⟩
theorem nd_CarryError : (("CarryError" : Str) == ("__debug__" : Str)) = false ∧ (("CarryError" : Str) == ("__classdict__" : Str)) = false := ⟨by decide +kernel, by decide +kernel⟩
theorem nd_NoLabel : (("NoLabel" : Str) == ("__debug__" : Str)) = false ∧ (("NoLabel" : Str) == ("__classdict__" : Str)) = false := ⟨by decide +kernel, by decide +kernel⟩
theorem nd_OutOfBounds : (("OutOfBounds" : Str) == ("__debug__" : Str)) = false ∧ (("OutOfBounds" : Str) == ("__classdict__" : Str)) = false := ⟨by decide +kernel, by decide +kernel⟩
theorem nd_TooMany : (("TooMany" : Str) == ("__debug__" : Str)) = false ∧ (("TooMany" : Str) == ("__classdict__" : Str)) = false := ⟨by decide +kernel, by decide +kernel⟩
theorem nd_TwinLabel : (("TwinLabel" : Str) == ("__debug__" : Str)) = false ∧ (("TwinLabel" : Str) == ("__classdict__" : Str)) = false := ⟨by decide +kernel, by decide +kernel⟩
theorem nd_ZeroBottom : (("ZeroBottom" : Str) == ("__debug__" : Str)) = false ∧ (("ZeroBottom" : Str) == ("__classdict__" : Str)) = false := ⟨by decide +kernel, by decide +kernel⟩
abbrev N_OutOfBounds___init__ : List Str := ["self", "value"]
theorem sc_OutOfBounds___init__ : FnScope N_OutOfBounds___init__ ["self", "value"] (defScope s_OutOfBounds___init__) := ⟨rfl, rfl, rfl, by decide +kernel, rfl, by decide +kernel, by decide +kernel⟩
abbrev N_is_label : List Str := ["text", "char"]
theorem sc_is_label : FnScope N_is_label ["text"] (defScope s_is_label) := ⟨rfl, rfl, rfl, by decide +kernel, rfl, by decide +kernel, by decide +kernel⟩
abbrev N_Ratio___init__ : List Str := ["self", "top", "bottom", "shared"]
theorem sc_Ratio___init__ : FnScope N_Ratio___init__ ["self", "top", "bottom"] (defScope s_Ratio___init__) := ⟨rfl, rfl, rfl, by decide +kernel, rfl, by decide +kernel, by decide +kernel⟩
abbrev N_Ratio___add__ : List Str := ["self", "other"]
theorem sc_Ratio___add__ : FnScope N_Ratio___add__ ["self", "other"] (defScope s_Ratio___add__) := ⟨rfl, rfl, rfl, by decide +kernel, rfl, by decide +kernel, by decide +kernel⟩
abbrev N_Ratio___mul__ : List Str := ["self", "other"]
theorem sc_Ratio___mul__ : FnScope N_Ratio___mul__ ["self", "other"] (defScope s_Ratio___mul__) := ⟨rfl, rfl, rfl, by decide +kernel, rfl, by decide +kernel, by decide +kernel⟩
abbrev N_Ratio___pow__ : List Str := ["self", "other"]
theorem sc_Ratio___pow__ : FnScope N_Ratio___pow__ ["self", "other"] (defScope s_Ratio___pow__) := ⟨rfl, rfl, rfl, by decide +kernel, rfl, by decide +kernel, by decide +kernel⟩
abbrev N_Ratio_raised : List Str := ["self", "n", "top", "bottom", "_"]
theorem sc_Ratio_raised : FnScope N_Ratio_raised ["self", "n"] (defScope s_Ratio_raised) := ⟨rfl, rfl, rfl, by decide +kernel, rfl, by decide +kernel, by decide +kernel⟩
abbrev N_Ratio_sign : List Str := ["self"]
theorem sc_Ratio_sign : FnScope N_Ratio_sign ["self"] (defScope s_Ratio_sign) := ⟨rfl, rfl, rfl, by decide +kernel, rfl, by decide +kernel, by decide +kernel⟩
abbrev N_row_times : List Str := ["row", "direction", "number", "step"]
theorem sc_row_times : FnScope N_row_times ["row", "direction"] (defScope s_row_times) := ⟨rfl, rfl, rfl, by decide +kernel, rfl, by decide +kernel, by decide +kernel⟩
abbrev N_Load___init__ : List Str := ["self", "label", "weight", "numbers", "number"]
theorem sc_Load___init__ : FnScope N_Load___init__ ["self", "label", "weight", "numbers"] (defScope s_Load___init__) := ⟨rfl, rfl, rfl, by decide +kernel, rfl, by decide +kernel, by decide +kernel⟩
abbrev N_Book___init__ : List Str := ["self", "width", "loads", "places", "at", "entry"]
theorem sc_Book___init__ : FnScope N_Book___init__ ["self", "width", "loads"] (defScope s_Book___init__) := ⟨rfl, rfl, rfl, by decide +kernel, rfl, by decide +kernel, by decide +kernel⟩
abbrev N_Book___len__ : List Str := ["self"]
theorem sc_Book___len__ : FnScope N_Book___len__ ["self"] (defScope s_Book___len__) := ⟨rfl, rfl, rfl, by decide +kernel, rfl, by decide +kernel, by decide +kernel⟩
abbrev N_Book_energy : List Str := ["self", "direction", "weights", "over", "total", "entry", "weight"]
theorem sc_Book_energy : FnScope N_Book_energy ["self", "direction"] (defScope s_Book_energy) := ⟨rfl, rfl, rfl, by decide +kernel, rfl, by decide +kernel, by decide +kernel⟩
abbrev N__whole_weights : List Str := ["loads", "over", "entry"]
theorem sc__whole_weights : FnScope N__whole_weights ["loads"] (defScope s__whole_weights) := ⟨rfl, rfl, rfl, by decide +kernel, rfl, by decide +kernel, by decide +kernel⟩
abbrev N_condensed : List Str := ["book", "kept", "entry", "content", "primitive", "first", "first_content", "multiple", "weight", "one", "_"]
theorem sc_condensed : FnScope N_condensed ["book"] (defScope s_condensed) := ⟨rfl, rfl, rfl, by decide +kernel, rfl, by decide +kernel, by decide +kernel⟩
abbrev N__split : List Str := ["numbers", "content", "lead", "number"]
theorem sc__split : FnScope N__split ["numbers"] (defScope s__split) := ⟨rfl, rfl, rfl, by decide +kernel, rfl, by decide +kernel, by decide +kernel⟩
abbrev N__law_digit : List Str := ["pot", "many", "found"]
theorem sc__law_digit : FnScope N__law_digit ["pot", "many"] (defScope s__law_digit) := ⟨rfl, rfl, rfl, by decide +kernel, rfl, by decide +kernel, by decide +kernel⟩
abbrev N__law_draw_labels : List Str := ["pot", "fixed", "turn", "step", "k"]
theorem sc__law_draw_labels : FnScope N__law_draw_labels ["pot"] (defScope s__law_draw_labels) := ⟨rfl, rfl, rfl, by decide +kernel, rfl, by decide +kernel, by decide +kernel⟩
abbrev N__law_draw_weight : List Str := ["pot", "k", "top"]
theorem sc__law_draw_weight : FnScope N__law_draw_weight ["pot", "k"] (defScope s__law_draw_weight) := ⟨rfl, rfl, rfl, by decide +kernel, rfl, by decide +kernel, by decide +kernel⟩
abbrev N__law_draw_base : List Str := ["pot", "width", "great", "found", "k", "row", "j"]
theorem sc__law_draw_base : FnScope N__law_draw_base ["pot", "width", "great"] (defScope s__law_draw_base) := ⟨rfl, rfl, rfl, by decide +kernel, rfl, by decide +kernel, by decide +kernel⟩
abbrev N__law_draw_rows : List Str := ["pot", "signs", "width", "many", "great", "base", "rows", "k", "line", "factor", "pair", "x", "at", "top", "bottom"]
theorem sc__law_draw_rows : FnScope N__law_draw_rows ["pot", "signs", "width", "many"] (defScope s__law_draw_rows) := ⟨rfl, rfl, rfl, by decide +kernel, rfl, by decide +kernel, by decide +kernel⟩
abbrev N__law_draw_direction : List Str := ["pot", "width", "kind", "j", "found", "at"]
theorem sc__law_draw_direction : FnScope N__law_draw_direction ["pot", "width"] (defScope s__law_draw_direction) := ⟨rfl, rfl, rfl, by decide +kernel, rfl, by decide +kernel, by decide +kernel⟩
abbrev N__law_whole : List Str := ["told"]
theorem sc__law_whole : FnScope N__law_whole ["told"] (defScope s__law_whole) := ⟨rfl, rfl, rfl, by decide +kernel, rfl, by decide +kernel, by decide +kernel⟩
abbrev N__law_gcd : List Str := ["a", "b", "k", "rest"]
theorem sc__law_gcd : FnScope N__law_gcd ["a", "b"] (defScope s__law_gcd) := ⟨rfl, rfl, rfl, by decide +kernel, rfl, by decide +kernel, by decide +kernel⟩
abbrev N__law_alike : List Str := ["told", "top", "bottom", "a", "b"]
theorem sc__law_alike : FnScope N__law_alike ["told", "top", "bottom"] (defScope s__law_alike) := ⟨rfl, rfl, rfl, by decide +kernel, rfl, by decide +kernel, by decide +kernel⟩
abbrev N__law_own_energy : List Str := ["rows", "way", "total", "base", "row", "along", "j"]
theorem sc__law_own_energy : FnScope N__law_own_energy ["rows", "way"] (defScope s__law_own_energy) := ⟨rfl, rfl, rfl, by decide +kernel, rfl, by decide +kernel, by decide +kernel⟩
abbrev N__law_made : List Str := ["width", "rows", "loads", "row"]
theorem sc__law_made : FnScope N__law_made ["width", "rows"] (defScope s__law_made) := ⟨rfl, rfl, rfl, by decide +kernel, rfl, by decide +kernel, by decide +kernel⟩
abbrev N__law_numbers_told : List Str := ["told", "due", "k"]
theorem sc__law_numbers_told : FnScope N__law_numbers_told ["told", "due"] (defScope s__law_numbers_told) := ⟨rfl, rfl, rfl, by decide +kernel, rfl, by decide +kernel, by decide +kernel⟩
abbrev N__law_load_told : List Str := ["told", "row"]
theorem sc__law_load_told : FnScope N__law_load_told ["told", "row"] (defScope s__law_load_told) := ⟨rfl, rfl, rfl, by decide +kernel, rfl, by decide +kernel, by decide +kernel⟩
abbrev N__law_same : List Str := ["told", "width", "rows", "k"]
theorem sc__law_same : FnScope N__law_same ["told", "width", "rows"] (defScope s__law_same) := ⟨rfl, rfl, rfl, by decide +kernel, rfl, by decide +kernel, by decide +kernel⟩
abbrev N__law_parallel : List Str := ["left", "right", "i", "j"]
theorem sc__law_parallel : FnScope N__law_parallel ["left", "right"] (defScope s__law_parallel) := ⟨rfl, rfl, rfl, by decide +kernel, rfl, by decide +kernel, by decide +kernel⟩
abbrev N__law_own_condensed : List Str := ["rows", "kept", "row", "line", "places", "i", "others", "k", "old", "top", "bottom", "a", "b", "pair"]
theorem sc__law_own_condensed : FnScope N__law_own_condensed ["rows"] (defScope s__law_own_condensed) := ⟨rfl, rfl, rfl, by decide +kernel, rfl, by decide +kernel, by decide +kernel⟩
abbrev N_law : List Str := ["script", "pot", "cell", "width", "many", "rows", "ways", "k", "due", "book", "turn", "told", "way", "total"]
theorem sc_law : FnScope N_law ["script"] (defScope s_law) := ⟨rfl, rfl, rfl, by decide +kernel, rfl, by decide +kernel, by decide +kernel⟩

theorem bt_abs : bootBuiltins "abs" = some (.builtin "abs") := by decide +kernel
theorem bt_len : bootBuiltins "len" = some (.builtin "len") := by decide +kernel
theorem bt_min : bootBuiltins "min" = some (.builtin "min") := by decide +kernel
theorem bt_max : bootBuiltins "max" = some (.builtin "max") := by decide +kernel
theorem bt_int : bootBuiltins "int" = some (.type "int") := by decide +kernel
theorem bt_bool : bootBuiltins "bool" = some (.type "bool") := by decide +kernel
theorem bt_str : bootBuiltins "str" = some (.type "str") := by decide +kernel
theorem bt_ValueError : bootBuiltins "ValueError" = some (.type "ValueError") := by decide +kernel
theorem bt_isinstance : bootBuiltins "isinstance" = some (.builtin "isinstance") := by decide +kernel
theorem bt_all : bootBuiltins "all" = some (.builtin "all") := by decide +kernel
theorem bt_any : bootBuiltins "any" = some (.builtin "any") := by decide +kernel
theorem bt_list : bootBuiltins "list" = some (.type "list") := by decide +kernel
theorem bt_tuple : bootBuiltins "tuple" = some (.type "tuple") := by decide +kernel
theorem bt_sum : bootBuiltins "sum" = some (.builtin "sum") := by decide +kernel

structure Txt (G : Gx) (C_Ratio C_Load C_Book C_OutOfBounds : Addr) : Prop where
  n_abs : G.mg "abs" = none
  n_len : G.mg "len" = none
  n_int : G.mg "int" = none
  n_bool : G.mg "bool" = none
  n_str : G.mg "str" = none
  n_range : G.mg "range" = none
  n_isinstance : G.mg "isinstance" = none
  n_zip : G.mg "zip" = none
  n_tuple : G.mg "tuple" = none
  n_list : G.mg "list" = none
  n_sum : G.mg "sum" = none
  n_enumerate : G.mg "enumerate" = none
  mg_gcd : G.mg "gcd" = some (.builtin "math.gcd")
  mg_lcm : G.mg "lcm" = some (.builtin "math.lcm")
  gc_LONGEST_LABEL : ∃ u, G.mg "LONGEST_LABEL" = some u ∧ RelV (.int 8) u
  gc_MOST_NUMBERS : ∃ u, G.mg "MOST_NUMBERS" = some u ∧ RelV (.int 12) u
  gc_LARGEST : ∃ u, G.mg "LARGEST" = some u ∧ RelV (.int 9999) u
  gc_MOST_LOADS : ∃ u, G.mg "MOST_LOADS" = some u ∧ RelV (.int 200) u
  gc_MOST_EXPONENT : ∃ u, G.mg "MOST_EXPONENT" = some u ∧ RelV (.int 64) u
  gc_LETTERS : ∃ u, G.mg "LETTERS" = some u ∧ RelV (.str (SX.S [97, 98, 99, 100, 101, 102, 103, 104, 105, 106, 107, 108, 109, 110, 111, 112, 113, 114, 115, 116, 117, 118, 119, 120, 121, 122])) u
  gc_DIGITS : ∃ u, G.mg "DIGITS" = some u ∧ RelV (.str (SX.S [48, 49, 50, 51, 52, 53, 54, 55, 56, 57])) u
  mg_Ratio : G.mg "Ratio" = some (.ref C_Ratio)
  mg_Load : G.mg "Load" = some (.ref C_Load)
  mg_Book : G.mg "Book" = some (.ref C_Book)
  mg_OutOfBounds : G.mg "OutOfBounds" = some (.ref C_OutOfBounds)
  R_Ratio : RatC G.K C_Ratio
  L_Load : LoadC G.K C_Load
  B_Book : BookC G.K C_Book
  x_OutOfBounds : Exc G "OutOfBounds" C_OutOfBounds ["value"]
  XC_OutOfBounds : ExK G.K C_OutOfBounds
  no_OutOfBounds_value : PySem.W.findIn G.K (.ref C_OutOfBounds) "value" = some none
  is_Ratio_Ratio : PySem.W.kitOne G.K (.ref C_Ratio) (.ref C_Ratio) = some true
  is_Load_Load : PySem.W.kitOne G.K (.ref C_Load) (.ref C_Load) = some true
  is_Book_Book : PySem.W.kitOne G.K (.ref C_Book) (.ref C_Book) = some true

/-! one step, by the goal's head -/

/-! Ratio and Span by numbers: their promises used -/
local macro_rules | `(tactic| walk_at "fld_1") => `(tactic| (with_reducible refine we_fldF ?_))
local macro_rules | `(tactic| walk_at "useWe_1") => `(tactic| first | (with_reducible refine we_mt ?_) | (with_reducible refine we_ratQ ?_) | (with_reducible refine we_ratQ1 ?_) | (with_reducible refine we_spn ?_) | fail)
local macro_rules | `(tactic| walk_at "sWe_1") => `(tactic| first
  | ((with_reducible refine we_var (d := ?d) ?hv ?hk); case hv => rfl)
  | (with_reducible first
    | refine we_cint ?_ | refine we_2 ?_ | refine we_cl0 ?_ | refine we_tup ?_ | refine we_1 ?_ | refine we_c2 ?_ | refine we_cbl ?_ | refine we_cnon ?_ | refine we_cty ?_ | refine we_cref ?_
    | refine we_op ?_ | refine we_andV ?_ | refine we_orV ?_ | refine we_notV ?_ | refine we_3 ?_ | refine we_ifx ?_ | refine we_cstr ?_ | refine we_clH ?_)
  | walk_at "fld_1"
  | walk_at "useWe_1")
local macro_rules | `(tactic| walk_at "useW2_1") => `(tactic| first
  | (with_reducible refine w2_addO (by assumption) (by decide) .fixed .fixed ?_) | (with_reducible refine w2_subO (by assumption) (by decide) .fixed .fixed ?_) | (with_reducible refine w2_mulO (by assumption) (by decide) .fixed .fixed ?_) | (with_reducible refine w1_negO (by assumption) (by decide) .fixed ?_) | (with_reducible refine w2_inO (by assumption) (by decide) .fixed ?_) | fail)
local macro_rules | `(tactic| walk_at "sW2_1") => `(tactic| first
  | (with_reducible first
    | refine w2_add ?_ | refine w2_sub ?_ | refine w2_mul ⟨?_, ?_⟩ | refine w2_fdiv ⟨?_, ?_⟩ | refine w2_mod ⟨?_, ?_⟩ | refine w2_pow ⟨?_, ?_⟩ | refine w2_eqI ?_ | refine w2_neI ?_ | refine w2_lt ?_ | refine w2_le ?_ | refine w2_gt ?_ | refine w2_ge ?_ | refine w2_eqFI ?_ | refine w2_neFI ?_)
  | ((with_reducible refine w2_ixT (d := ?d) ⟨?hv, ?hk⟩); case hv => rfl)
  | ((with_reducible refine w2_ixL (d := ?d) ⟨?hv, ?hk⟩); case hv => rfl)
  | ((with_reducible refine w2_ixM (d := ?d) .head ⟨?hv, ?hk⟩); case hv => rfl)
  | (with_reducible first
    | refine w2_eqIH ?_ | refine w2_neIH ?_ | refine w2_mulH ⟨?_, ?_⟩ | refine w2_addH ?_ | refine w2_subH ?_ | refine w2_isN ?_ | refine w2_notN ?_ | refine w2_isB ?_ | refine w2_notB ?_)
  | walk_at "useW2_1")
local macro_rules | `(tactic| walk_at "sWa_1") => `(tactic| with_reducible first | refine wa_nil ?_ | refine wa_cons ?_)
local macro_rules | `(tactic| walk_at "useWs_1") => `(tactic| first | (with_reducible refine ws_rs0 ?_) | (with_reducible refine ws_rs ?_) | fail)
local macro_rules | `(tactic| walk_at "sWs_1") => `(tactic| first
  | (with_reducible first | refine ws_seq ?_ | refine ws_ret ?_ | refine ws_asg ?_ | refine ws_next ?_ | refine ws_drop ?_ | refine ws_par ?_ | refine ws_par3 ?_ | refine ws_fldN ?_ | refine ws_brk ?_ | refine ws_cont ?_)
  | walk_at "useWs_1")
local macro_rules | `(tactic| walk_at "sWt_1") => `(tactic| with_reducible first | refine wt_test ?_ | refine wt_tr ?_ | refine wt_and ?_ | refine wt_or ?_ | refine wt_not ?_)
local macro_rules | `(tactic| walk_at "useWc_1") => `(tactic| fail)
local macro_rules | `(tactic| walk_at "sWc_1") => `(tactic| first
  | (with_reducible first | refine wc_int ?_ | refine wc_abs ?_ | refine wc_min ?_ | refine wc_gcd ?_ | refine wc_isiT .int kit_ii ?_ | refine wc_isiT .int kit_ib ?_ | refine wc_len .lst ?_ | refine wc_len .tup ?_ | refine wc_strI ?_ ?_)
  | walk_at "useWc_1")
local macro_rules | `(tactic| walk_at "sWi_1") => `(tactic| fail)
local macro_rules | `(tactic| walk_at "sWg_1") => `(tactic| with_reducible first | refine wg_name ?_ | refine wg_subM ?_ | refine wg_tup rfl ?_)
local macro_rules | `(tactic| walk_at "sW1_1") => `(tactic| first | (with_reducible refine w1_neg ?_) | walk_at "useW2_1")
local macro_rules | `(tactic| walk_at "sWgs_1") => `(tactic| with_reducible first | refine wgs_cons ?_ | refine wgs_nil ?_)
local macro_rules | `(tactic| walk_at "sS_1") => `(tactic| fail)
local macro_rules | `(tactic| walk_at "use_1") => `(tactic| fail)
local macro_rules | `(tactic| walk_at "sX_1") => `(tactic| first
  | (with_reducible refine ⟨_, rfl, ?_⟩)
  | (with_reducible refine fld_top (by assumption) ?_) | (with_reducible refine fld_bottom (by assumption) ?_)
  | (with_reducible refine ⟨_, .bl, ?_⟩)
  | ((with_reducible refine ⟨?h, ?_⟩); case h => rfl)
  | (with_reducible refine ⟨_, _, rfl, ?_⟩)
  | (with_reducible refine ⟨_, _, _, rfl, ?_⟩)
  | walk_at "use_1"
  | (with_reducible refine setN_top (by assumption) ?_) | (with_reducible refine setN_bottom (by assumption) ?_)
  | ((with_reducible refine ⟨_, _, _, ?j, _, rfl, rfl, .head, ?h, .head, ?_⟩); case h => rfl)
  | fail)
local macro_rules | `(tactic| walk_at "st_1") => `(tactic| first
  | ((with_reducible show We _ _ _ _ _ _); walk_at "sWe_1")
  | ((with_reducible show W2 _ _ _ _ _ _ _ _); walk_at "sW2_1")
  | ((with_reducible show Wa _ _ _ _ _ _); walk_at "sWa_1")
  | ((with_reducible show Ws _ _ _ _ _ _); walk_at "sWs_1")
  | ((with_reducible show Wt _ _ _ _ _ _); walk_at "sWt_1")
  | ((with_reducible show Wc _ _ _ _ _ _ _); walk_at "sWc_1")
  | ((with_reducible show Wi _ _ _ _ _ _); walk_at "sWi_1")
  | ((with_reducible show Wg _ _ _ _ _ _ _); walk_at "sWg_1")
  | ((with_reducible show W1 _ _ _ _ _ _ _); walk_at "sW1_1")
  | ((with_reducible show Wgs _ _ _ _ _ _ _); walk_at "sWgs_1")
  | walk_at "sS_1" | walk_at "sX_1" | fail)
local macro_rules | `(tactic| walk_at "wif_1") => `(tactic| (with_reducible refine ws_if ?_))
local macro_rules | `(tactic| walk_at "br_1") => `(tactic| ((with_reducible refine ⟨fun hb => ?_, fun hb => ?_⟩) <;> (try simp only [decide_eq_true_eq, decide_eq_false_iff_not, Bool.not_eq_true', Bool.not_eq_false', Bool.and_eq_true, Bool.or_eq_true, reduceCtorEq, List.length_map, Bool.not_true, Bool.not_false, DL.isNon, not_true_eq_false, not_false_eq_true, Classical.not_not, List.all_cons, List.all_nil, id_eq, Bool.and_self, Bool.true_and, decide_true, decide_false] at hb)))
local macro_rules | `(tactic| walk_at "go_1") => `(tactic| repeat' (first | walk_at "st_1" | walk_at "wif_1" | walk_at "br_1" | fail))

section
variable {G : Gx} {C_Ratio C_Load C_Book C_OutOfBounds : Addr}
theorem ok_init (T : Txt G C_Ratio C_Load C_Book C_OutOfBounds) {f : Addr} {fd : FuncData} {dvs : List V} (F : FunW G.K "__init__" "Ratio.__init__" s_Ratio___init__ dvs f fd) {ds : List Value} {dd : List D} (b : L2.Binds G.K fd ["self", "top", "bottom"] ds) (d : L2.Vals (dd.map ofD) ds) (cs : dd.all isC = true) : Fnx G 1 f 3 (S_init C_Ratio) dd := by
  refine fnx_ofD F sc_Ratio___init__ rfl b d cs (fun cdv A outer s H FF hr tk => ⟨_, (pss_cons (ps_if (pt_cm (os_eqF hr tk) (pe_var (i := 2) rfl (Or.inl rfl) nd_bottom.1 nd_bottom.2) pe_int (nomark _)) (pss_one ps_never) pss_nil) (pss_cons (ps_set (i := 3) sc_Ratio___init__.nd rfl (Or.inl rfl) (pe_cf cs_gcd rfl T.mg_gcd (pa_cons (pe_var (i := 1) rfl (Or.inl rfl) nd_top.1 nd_top.2) (pa_cons (pe_var (i := 2) rfl (Or.inl rfl) nd_bottom.1 nd_bottom.2) pa_nil)))) (pss_cons (ps_if (pt_cm os_lt (pe_var (i := 2) rfl (Or.inl rfl) nd_bottom.1 nd_bottom.2) pe_int (nomark _)) (pss_one (ps_set (i := 3) sc_Ratio___init__.nd rfl (Or.inl rfl) (pe_una (us_neg hr tk) (pe_var (i := 3) rfl (Or.inl rfl) nd_shared.1 nd_shared.2)))) pss_nil) (pss_cons (ps_fld (pe_var (i := 0) rfl (Or.inl rfl) nd_self.1 nd_self.2) (pe_bin os_fdiv (pe_var (i := 1) rfl (Or.inl rfl) nd_top.1 nd_top.2) (pe_var (i := 3) rfl (Or.inl rfl) nd_shared.1 nd_shared.2)) rfl) (pss_one (ps_fld (pe_var (i := 0) rfl (Or.inl rfl) nd_self.1 nd_self.2) (pe_bin os_fdiv (pe_var (i := 2) rfl (Or.inl rfl) nd_bottom.1 nd_bottom.2) (pe_var (i := 3) rfl (Or.inl rfl) nd_shared.1 nd_shared.2)) rfl)))))), ?_⟩)
  rintro ds m K E - ⟨x, m0, t, b, rfl, rfl, hb0, hbb, k⟩
  show Ws _ _ _ [some (.ref x), some (.int t), some (.int b), none] _ _
  try dsimp only [cx_G, cx_K]
  have gp := gc_pos (t := t) hb0
  have gb := gc_bd (t := t) hb0 hbb
  have R := T.R_Ratio
  have gn : gc t b ≠ 0 := by omega
  have fin1 : ¬ b < 0 → t.fdiv (gc t b) = rT t b ∧ b.fdiv (gc t b) = rB t b := fun h => by
    unfold rT rB
    rw [if_neg h, if_neg h, fdiv_pos gp, fdiv_pos gp]
    exact ⟨rfl, rfl⟩
  have fin2 : b < 0 → t.fdiv (-gc t b) = rT t b ∧ b.fdiv (-gc t b) = rB t b := fun h => by
    unfold rT rB
    rw [if_pos h, if_pos h, fdiv_neg' gp (gc_dvd1 t b), fdiv_neg' gp (gc_dvd2 t b)]
    exact ⟨rfl, rfl⟩
  have c1 : ∀ z : Int, CDivX z (-((t.natAbs.gcd b.natAbs : Nat) : Int)) := fun z => gb.neg.divX (by omega) (by decide)
  have c2 : ∀ z : Int, CDivX z ((t.natAbs.gcd b.natAbs : Nat) : Int) := fun z => gb.divX gn (by decide)
  have k1 : b < 0 → K .non ((x, .ins C_Ratio ["top", "bottom"] [.int (t.fdiv (-((t.natAbs.gcd b.natAbs : Nat) : Int))), .int (b.fdiv (-((t.natAbs.gcd b.natAbs : Nat) : Int)))]) :: m0) := fun h => by
    have q := k
    rw [← (fin2 h).1, ← (fin2 h).2] at q
    exact q
  have k2 : ¬ b < 0 → K .non ((x, .ins C_Ratio ["top", "bottom"] [.int (t.fdiv ((t.natAbs.gcd b.natAbs : Nat) : Int)), .int (b.fdiv ((t.natAbs.gcd b.natAbs : Nat) : Int))]) :: m0) := fun h => by
    have q := k
    rw [← (fin1 h).1, ← (fin1 h).2] at q
    exact q
  walk_at "go_1"
  all_goals first | exact absurd ‹b = 0› hb0 | exact c1 _ | exact c2 _ | exact k1 ‹_› | exact k2 ‹_›
local macro_rules | `(tactic| walk_at "fld_2") => `(tactic| (with_reducible refine we_fldF ?_))
local macro_rules | `(tactic| walk_at "useWe_2") => `(tactic| first | (with_reducible refine we_mt ?_) | (with_reducible refine we_ratQ ?_) | (with_reducible refine we_ratQ1 ?_) | (with_reducible refine we_spn ?_) | fail)
local macro_rules | `(tactic| walk_at "sWe_2") => `(tactic| first
  | ((with_reducible refine we_var (d := ?d) ?hv ?hk); case hv => rfl)
  | (with_reducible first
    | refine we_cint ?_ | refine we_2 ?_ | refine we_cl0 ?_ | refine we_tup ?_ | refine we_1 ?_ | refine we_c2 ?_ | refine we_cbl ?_ | refine we_cnon ?_ | refine we_cty ?_ | refine we_cref ?_
    | refine we_op ?_ | refine we_andV ?_ | refine we_orV ?_ | refine we_notV ?_ | refine we_3 ?_ | refine we_ifx ?_ | refine we_cstr ?_ | refine we_clH ?_)
  | walk_at "fld_2"
  | walk_at "useWe_2")
local macro_rules | `(tactic| walk_at "useW2_2") => `(tactic| first
  | (with_reducible refine w2_addO (by assumption) (by decide) .fixed .fixed ?_) | (with_reducible refine w2_subO (by assumption) (by decide) .fixed .fixed ?_) | (with_reducible refine w2_mulO (by assumption) (by decide) .fixed .fixed ?_) | (with_reducible refine w1_negO (by assumption) (by decide) .fixed ?_) | (with_reducible refine w2_inO (by assumption) (by decide) .fixed ?_) | fail)
local macro_rules | `(tactic| walk_at "sW2_2") => `(tactic| first
  | (with_reducible first
    | refine w2_add ?_ | refine w2_sub ?_ | refine w2_mul ⟨?_, ?_⟩ | refine w2_fdiv ⟨?_, ?_⟩ | refine w2_mod ⟨?_, ?_⟩ | refine w2_pow ⟨?_, ?_⟩ | refine w2_eqI ?_ | refine w2_neI ?_ | refine w2_lt ?_ | refine w2_le ?_ | refine w2_gt ?_ | refine w2_ge ?_ | refine w2_eqFI ?_ | refine w2_neFI ?_)
  | ((with_reducible refine w2_ixT (d := ?d) ⟨?hv, ?hk⟩); case hv => rfl)
  | ((with_reducible refine w2_ixL (d := ?d) ⟨?hv, ?hk⟩); case hv => rfl)
  | ((with_reducible refine w2_ixM (d := ?d) .head ⟨?hv, ?hk⟩); case hv => rfl)
  | (with_reducible first
    | refine w2_eqIH ?_ | refine w2_neIH ?_ | refine w2_mulH ⟨?_, ?_⟩ | refine w2_addH ?_ | refine w2_subH ?_ | refine w2_isN ?_ | refine w2_notN ?_ | refine w2_isB ?_ | refine w2_notB ?_)
  | walk_at "useW2_2")
local macro_rules | `(tactic| walk_at "sWa_2") => `(tactic| with_reducible first | refine wa_nil ?_ | refine wa_cons ?_)
local macro_rules | `(tactic| walk_at "useWs_2") => `(tactic| first | (with_reducible refine ws_rs0 ?_) | (with_reducible refine ws_rs ?_) | fail)
local macro_rules | `(tactic| walk_at "sWs_2") => `(tactic| first
  | (with_reducible first | refine ws_seq ?_ | refine ws_ret ?_ | refine ws_asg ?_ | refine ws_next ?_ | refine ws_drop ?_ | refine ws_par ?_ | refine ws_par3 ?_ | refine ws_fldN ?_ | refine ws_brk ?_ | refine ws_cont ?_)
  | walk_at "useWs_2")
local macro_rules | `(tactic| walk_at "sWt_2") => `(tactic| with_reducible first | refine wt_test ?_ | refine wt_tr ?_ | refine wt_and ?_ | refine wt_or ?_ | refine wt_not ?_)
local macro_rules | `(tactic| walk_at "useWc_2") => `(tactic| fail)
local macro_rules | `(tactic| walk_at "sWc_2") => `(tactic| first
  | (with_reducible first | refine wc_int ?_ | refine wc_abs ?_ | refine wc_min ?_ | refine wc_gcd ?_ | refine wc_isiT .int kit_ii ?_ | refine wc_isiT .int kit_ib ?_ | refine wc_len .lst ?_ | refine wc_len .tup ?_ | refine wc_strI ?_ ?_)
  | walk_at "useWc_2")
local macro_rules | `(tactic| walk_at "sWi_2") => `(tactic| fail)
local macro_rules | `(tactic| walk_at "sWg_2") => `(tactic| with_reducible first | refine wg_name ?_ | refine wg_subM ?_ | refine wg_tup rfl ?_)
local macro_rules | `(tactic| walk_at "sW1_2") => `(tactic| first | (with_reducible refine w1_neg ?_) | walk_at "useW2_2")
local macro_rules | `(tactic| walk_at "sWgs_2") => `(tactic| with_reducible first | refine wgs_cons ?_ | refine wgs_nil ?_)
local macro_rules | `(tactic| walk_at "sS_2") => `(tactic| fail)
local macro_rules | `(tactic| walk_at "useq_2") => `(tactic| first
  | (with_reducible refine fld_low (by assumption) ?_) | (with_reducible refine fld_high (by assumption) ?_)
  | (with_reducible refine mt_of0 (by assumption) (by decide) ?_) | (with_reducible refine RatQ.mk ?_ ?_ ?_)
  | (with_reducible refine use_qcmp ?_ ?_ ?_) | (with_reducible refine use_qsign ?_) | (with_reducible refine use_qdown ?_ ?_) | (with_reducible refine use_qup ?_ ?_)
  | (with_reducible refine use_qleast ?_ ?_ ?_) | (with_reducible refine use_qgreat ?_ ?_ ?_)
  | (with_reducible refine use_qadd ?_ ?_ ?_) | (with_reducible refine use_qsub ?_ ?_ ?_) | (with_reducible refine use_qmul ?_ ?_ ?_) | (with_reducible refine use_qdiv ?_ ?_ ?_ ?_) | (with_reducible refine use_qneg ?_ ?_)
  | (with_reducible refine SpnA.mk ?_ ?_ ?_ ?_)
  | (with_reducible refine use_s2 ?_ ?_) | (with_reducible refine use_sneg ?_ ?_ ?_ ?_) | (with_reducible refine use_scont ?_ ?_ ?_ ?_) | (with_reducible refine use_sdiv ?_ ?_ ?_)
  | (with_reducible refine setN_low (by assumption) ?_) | (with_reducible refine setN_high (by assumption) ?_)
  | fail)
local macro_rules | `(tactic| walk_at "use_2") => `(tactic| first | walk_at "useq_2" | fail)
local macro_rules | `(tactic| walk_at "sX_2") => `(tactic| first
  | (with_reducible refine ⟨_, rfl, ?_⟩)
  | (with_reducible refine fld_top (by assumption) ?_) | (with_reducible refine fld_bottom (by assumption) ?_)
  | (with_reducible refine ⟨_, .bl, ?_⟩)
  | ((with_reducible refine ⟨?h, ?_⟩); case h => rfl)
  | (with_reducible refine ⟨_, _, rfl, ?_⟩)
  | (with_reducible refine ⟨_, _, _, rfl, ?_⟩)
  | walk_at "use_2"
  | (with_reducible refine setN_top (by assumption) ?_) | (with_reducible refine setN_bottom (by assumption) ?_)
  | ((with_reducible refine ⟨_, _, _, ?j, _, rfl, rfl, .head, ?h, .head, ?_⟩); case h => rfl)
  | fail)
local macro_rules | `(tactic| walk_at "st_2") => `(tactic| first
  | ((with_reducible show We _ _ _ _ _ _); walk_at "sWe_2")
  | ((with_reducible show W2 _ _ _ _ _ _ _ _); walk_at "sW2_2")
  | ((with_reducible show Wa _ _ _ _ _ _); walk_at "sWa_2")
  | ((with_reducible show Ws _ _ _ _ _ _); walk_at "sWs_2")
  | ((with_reducible show Wt _ _ _ _ _ _); walk_at "sWt_2")
  | ((with_reducible show Wc _ _ _ _ _ _ _); walk_at "sWc_2")
  | ((with_reducible show Wi _ _ _ _ _ _); walk_at "sWi_2")
  | ((with_reducible show Wg _ _ _ _ _ _ _); walk_at "sWg_2")
  | ((with_reducible show W1 _ _ _ _ _ _ _); walk_at "sW1_2")
  | ((with_reducible show Wgs _ _ _ _ _ _ _); walk_at "sWgs_2")
  | walk_at "sS_2" | walk_at "sX_2" | fail)
local macro_rules | `(tactic| walk_at "wif_2") => `(tactic| (with_reducible refine ws_if ?_))
local macro_rules | `(tactic| walk_at "br_2") => `(tactic| ((with_reducible refine ⟨fun hb => ?_, fun hb => ?_⟩) <;> (try simp only [decide_eq_true_eq, decide_eq_false_iff_not, Bool.not_eq_true', Bool.not_eq_false', Bool.and_eq_true, Bool.or_eq_true, reduceCtorEq, List.length_map, Bool.not_true, Bool.not_false, DL.isNon, not_true_eq_false, not_false_eq_true, Classical.not_not, List.all_cons, List.all_nil, id_eq, Bool.and_self, Bool.true_and, decide_true, decide_false] at hb)))
local macro_rules | `(tactic| walk_at "go_2") => `(tactic| repeat' (first | walk_at "st_2" | walk_at "wif_2" | walk_at "br_2" | fail))
theorem ok_qadd (T : Txt G C_Ratio C_Load C_Book C_OutOfBounds) (k_Ratio : Mak G 1 "Ratio" C_Ratio 3 (S_init C_Ratio) []) {f : Addr} {fd : FuncData} (F : L2.Fun G.K "__add__" "Ratio.__add__" s_Ratio___add__ f fd) (b : L2.Binds G.K fd ["self", "other"] []) : Fnx G 3 f 2 (S_qadd C_Ratio) [] := by
  refine fnx_of F sc_Ratio___add__ rfl b .nil rfl (fun cdv A outer s H FF hr tk => ⟨_, (pss_one (ps_ret (pe_mak k_Ratio hr (by decide) tk rfl (pa_cons (pe_bin (os_add hr tk) (pe_bin (os_mul hr tk) (pe_fld (pe_var (i := 0) rfl (Or.inl rfl) nd_self.1 nd_self.2) rfl) (pe_fld (pe_var (i := 1) rfl (Or.inl rfl) nd_other.1 nd_other.2) rfl)) (pe_bin (os_mul hr tk) (pe_fld (pe_var (i := 1) rfl (Or.inl rfl) nd_other.1 nd_other.2) rfl) (pe_fld (pe_var (i := 0) rfl (Or.inl rfl) nd_self.1 nd_self.2) rfl))) (pa_cons (pe_bin (os_mul hr tk) (pe_fld (pe_var (i := 0) rfl (Or.inl rfl) nd_self.1 nd_self.2) rfl) (pe_fld (pe_var (i := 1) rfl (Or.inl rfl) nd_other.1 nd_other.2) rfl)) pa_nil))))), ?_⟩)
  rintro ds m K E - ⟨x, y, rfl, hx, hy, k⟩
  show Ws _ _ _ [some (rq C_Ratio x), some (rq C_Ratio y)] _ _
  try dsimp only [cx_G, cx_K]
  have R := T.R_Ratio
  walk_at "go_2"
  all_goals first | exact hx.1.mulX hy.2 (by decide) | exact hy.1.mulX hx.2 (by decide) | exact hx.2.mulX hy.2 (by decide) | exact Int.mul_ne_zero (den_ne x) (den_ne y) | exact (hx.2.mul hy.2).mono (by decide) | (rw [q_add]; exact k)
theorem ok_qmul (T : Txt G C_Ratio C_Load C_Book C_OutOfBounds) (k_Ratio : Mak G 1 "Ratio" C_Ratio 3 (S_init C_Ratio) []) {f : Addr} {fd : FuncData} (F : L2.Fun G.K "__mul__" "Ratio.__mul__" s_Ratio___mul__ f fd) (b : L2.Binds G.K fd ["self", "other"] []) : Fnx G 3 f 2 (S_qmul C_Ratio) [] := by
  refine fnx_of F sc_Ratio___mul__ rfl b .nil rfl (fun cdv A outer s H FF hr tk => ⟨_, (pss_one (ps_ret (pe_mak k_Ratio hr (by decide) tk rfl (pa_cons (pe_bin (os_mul hr tk) (pe_fld (pe_var (i := 0) rfl (Or.inl rfl) nd_self.1 nd_self.2) rfl) (pe_fld (pe_var (i := 1) rfl (Or.inl rfl) nd_other.1 nd_other.2) rfl)) (pa_cons (pe_bin (os_mul hr tk) (pe_fld (pe_var (i := 0) rfl (Or.inl rfl) nd_self.1 nd_self.2) rfl) (pe_fld (pe_var (i := 1) rfl (Or.inl rfl) nd_other.1 nd_other.2) rfl)) pa_nil))))), ?_⟩)
  rintro ds m K E - ⟨x, y, rfl, hx, hy, k⟩
  show Ws _ _ _ [some (rq C_Ratio x), some (rq C_Ratio y)] _ _
  try dsimp only [cx_G, cx_K]
  have R := T.R_Ratio
  walk_at "go_2"
  all_goals first | exact hx.1.mulX hy.1 (by decide) | exact hx.2.mulX hy.2 (by decide) | exact Int.mul_ne_zero (den_ne x) (den_ne y) | exact (hx.2.mul hy.2).mono (by decide) | (rw [q_mul]; exact k)
theorem ok_qraised (T : Txt G C_Ratio C_Load C_Book C_OutOfBounds) (k_Ratio : Mak G 1 "Ratio" C_Ratio 3 (S_init C_Ratio) []) {f : Addr} {fd : FuncData} (F : L2.Fun G.K "raised" "Ratio.raised" s_Ratio_raised f fd) (b : L2.Binds G.K fd ["self", "n"] []) : Fnx G 3 f 2 (S_qraised C_Ratio C_OutOfBounds) [] := by
  refine fnx_of F sc_Ratio_raised rfl b .nil rfl (fun cdv A outer s H FF hr tk => ⟨_, (pss_cons (ps_if (pt_not (pt_ch os_le os_le pe_int (pe_var (i := 1) rfl (Or.inl rfl) nd_n.1 nd_n.2) (pe_gcD rfl T.gc_MOST_EXPONENT))) (pss_one (ps_rs T.x_OutOfBounds rfl hr (by decide) tk rfl (pa_cons (pe_var (i := 1) rfl (Or.inl rfl) nd_n.1 nd_n.2) pa_nil))) pss_nil) (pss_cons (ps_set (i := 2) sc_Ratio_raised.nd rfl (Or.inl rfl) pe_int) (pss_cons (ps_set (i := 3) sc_Ratio_raised.nd rfl (Or.inl rfl) pe_int) (pss_cons (ps_for (passes_of rfl) rfl (pi_range1 rfl T.n_range (pa_cons (pe_var (i := 1) rfl (Or.inl rfl) nd_n.1 nd_n.2) pa_nil)) (pg_name (i := 4) sc_Ratio_raised.nd rfl (Or.inl rfl)) (pss_cons (ps_set (i := 2) sc_Ratio_raised.nd rfl (Or.inl rfl) (pe_bin (os_mul hr tk) (pe_var (i := 2) rfl (Or.inl rfl) nd_top.1 nd_top.2) (pe_fld (pe_var (i := 0) rfl (Or.inl rfl) nd_self.1 nd_self.2) rfl))) (pss_one (ps_set (i := 3) sc_Ratio_raised.nd rfl (Or.inl rfl) (pe_bin (os_mul hr tk) (pe_var (i := 3) rfl (Or.inl rfl) nd_bottom.1 nd_bottom.2) (pe_fld (pe_var (i := 0) rfl (Or.inl rfl) nd_self.1 nd_self.2) rfl)))))) (pss_one (ps_ret (pe_mak k_Ratio hr (by decide) tk rfl (pa_cons (pe_var (i := 2) rfl (Or.inl rfl) nd_top.1 nd_top.2) (pa_cons (pe_var (i := 3) rfl (Or.inl rfl) nd_bottom.1 nd_bottom.2) pa_nil))))))))), ?_⟩)
  rintro ds m K E - ⟨x, n, a, rfl, hx, ha, k⟩
  let R0 : Int → Int → Option D → Rho := fun t c o => [some (rq C_Ratio x), some (.int n), some (.int t), some (.int c), o]
  show Ws _ _ _ [some (rq C_Ratio x), some (.int n), none, none, none] _ _
  try dsimp only [cx_G, cx_K]
  have R := T.R_Ratio
  have bad : ¬ (0 ≤ n ∧ n ≤ 64) → E ⟨C_OutOfBounds, ["value"], [.int n]⟩ m := fun z => by
    rcases k with ⟨_, k⟩ | ⟨h0, h1, _⟩
    · exact k
    · exact absurd ⟨h0, h1⟩ z
  have good : 0 ≤ n → n ≤ 64 → K (rq C_Ratio (x ^ n.toNat)) m := fun h0 h1 => by
    rcases k with ⟨z, _⟩ | ⟨_, _, k⟩
    · exact absurd ⟨h0, h1⟩ z
    · exact k
  have b1 : ¬ 0 ≤ n → E ⟨C_OutOfBounds, ["value"], [.int n]⟩ m := fun z => bad fun w => z w.1
  have b2 : ¬ n ≤ 64 → E ⟨C_OutOfBounds, ["value"], [.int n]⟩ m := fun z => bad fun w => z w.2
  walk_at "go_2"
  all_goals try first | exact b1 ‹_› | exact b2 ‹_›
  rename_i h0 h1
  refine ws_range1 ?_
  walk_at "go_2"
  refine ⟨n, fun i r' m' => m' = m ∧ ∃ o, r' = R0 (x.num ^ i) ((x.den : Int) ^ i) o, rfl, by omega, ⟨rfl, none, by rw [Int.pow_zero, Int.pow_zero]; rfl⟩, ?_, ?_⟩
  · rintro i r' m' hi ⟨rfl, o, rfl⟩
    have i64 : i ≤ 64 := by omega
    have la : i * a ≤ 64 * 100 := Nat.mul_le_mul i64 ha
    walk_at "go_2"
    · exact (hx.t.pow i).mulX hx.t (by omega)
    · exact (hx.b.pow i).mulX hx.b (by omega)
    · exact ⟨some (.int i), by rw [Int.pow_succ, Int.pow_succ]; rfl⟩
  · rintro r' m' ⟨rfl, o, rfl⟩
    have la : n.toNat * a ≤ 64 * 100 := Nat.mul_le_mul (by omega) ha
    have e : dv (x.num ^ n.toNat) ((x.den : Int) ^ n.toNat) = x ^ n.toNat := by rw [dv_pow, dv_self]
    walk_at "go_2"
    · exact pow_ne_zeroI (den_ne x) _
    · exact (hx.b.pow _).mono (by omega)
    · rw [e]
      exact good h0 h1
theorem ok_qpow (T : Txt G C_Ratio C_Load C_Book C_OutOfBounds) (m_Ratio_raised : Met G 3 C_Ratio ["top", "bottom"] "raised" 2 (S_qraised C_Ratio C_OutOfBounds) []) {f : Addr} {fd : FuncData} (F : L2.Fun G.K "__pow__" "Ratio.__pow__" s_Ratio___pow__ f fd) (b : L2.Binds G.K fd ["self", "other"] []) : Fnx G 4 f 2 (S_qraised C_Ratio C_OutOfBounds) [] := by
  refine fnx_of F sc_Ratio___pow__ rfl b .nil rfl (fun cdv A outer s H FF hr tk => ⟨_, (pss_one (ps_ret (pe_mth hr tk (pe_var (i := 0) rfl (Or.inl rfl) nd_self.1 nd_self.2) (pa_cons (pe_var (i := 1) rfl (Or.inl rfl) nd_other.1 nd_other.2) pa_nil)))), ?_⟩)
  rintro ds m K E - ⟨x, n, a, rfl, hx, ha, k⟩
  show Ws _ _ _ [some (rq C_Ratio x), some (.int n)] _ _
  try dsimp only [cx_G, cx_K]
  walk_at "go_2"
  exact ⟨x, n, a, rfl, hx, ha, k⟩
theorem ok_qsign (T : Txt G C_Ratio C_Load C_Book C_OutOfBounds) {f : Addr} {fd : FuncData} (F : L2.Fun G.K "sign" "Ratio.sign" s_Ratio_sign f fd) (b : L2.Binds G.K fd ["self"] []) : Fnx G 1 f 1 (S_qsign C_Ratio) [] := by
  refine fnx_of F sc_Ratio_sign rfl b .nil rfl (fun cdv A outer s H FF hr tk => ⟨_, (pss_cons (ps_if (pt_cm os_lt (pe_fld (pe_var (i := 0) rfl (Or.inl rfl) nd_self.1 nd_self.2) rfl) pe_int (nomark _)) (pss_one (ps_ret (pe_una (us_neg hr tk) pe_int))) pss_nil) (pss_cons (ps_if (pt_cm os_gt (pe_fld (pe_var (i := 0) rfl (Or.inl rfl) nd_self.1 nd_self.2) rfl) pe_int (nomark _)) (pss_one (ps_ret pe_int)) pss_nil) (pss_one (ps_ret pe_int)))), ?_⟩)
  rintro ds m K E - ⟨x, rfl, k⟩
  show Ws _ _ _ [some (rq C_Ratio x)] _ _
  try dsimp only [cx_G, cx_K]
  have R := T.R_Ratio
  have e : cq x 0 = if x.num < 0 then -1 else if 0 < x.num then 1 else 0 := by
    unfold cq
    simp only [num_neg_iff, num_pos_iff]
  rw [e] at k
  walk_at "go_2"
  · rw [if_pos ‹_›] at k
    exact k
  · rw [if_neg ‹_›, if_pos ‹_›] at k
    exact k
  · rw [if_neg ‹_›, if_neg ‹_›] at k
    exact k

end
/-! comprehensions, sums, lists of others -/

/-! texts -/

/-! books -/

section
variable {G : Gx} {C_Ratio C_Load C_Book C_OutOfBounds : Addr}
local macro_rules | `(tactic| walk_at "fld_3") => `(tactic| (with_reducible refine we_fldF ?_))
local macro_rules | `(tactic| walk_at "useWe_3") => `(tactic| first | (with_reducible refine we_mt ?_) | (with_reducible refine we_ratG ?_) | (with_reducible refine we_ratG1 ?_) | (with_reducible refine we_stw ?_) | (with_reducible refine we_prt ?_) | (with_reducible refine we_slXp ?_) | (with_reducible refine we_slXs ?_) | (with_reducible refine we_mkV rfl ?_) | (with_reducible refine we_cme ?_) | (with_reducible refine we_lst ?_) | fail)
local macro_rules | `(tactic| walk_at "sWe_3") => `(tactic| first
  | ((with_reducible refine we_var (d := ?d) ?hv ?hk); case hv => rfl)
  | (with_reducible first
    | refine we_cint ?_ | refine we_2 ?_ | refine we_cl0 ?_ | refine we_tup ?_ | refine we_1 ?_ | refine we_c2 ?_ | refine we_cbl ?_ | refine we_cnon ?_ | refine we_cty ?_ | refine we_cref ?_
    | refine we_op ?_ | refine we_andV ?_ | refine we_orV ?_ | refine we_notV ?_ | refine we_3 ?_ | refine we_ifx ?_ | refine we_cstr ?_ | refine we_clH ?_)
  | walk_at "fld_3"
  | walk_at "useWe_3")
local macro_rules | `(tactic| walk_at "useW2_3") => `(tactic| first | (with_reducible refine w2_addS ?_ ?_) | (with_reducible refine w2_eqS ?_) | (with_reducible refine w2_neS ?_) | (with_reducible refine w2_ninS ?_) | (with_reducible refine w2_powF ⟨?_, ?_⟩) | fail)
local macro_rules | `(tactic| walk_at "sW2_3") => `(tactic| first
  | (with_reducible first
    | refine w2_add ?_ | refine w2_sub ?_ | refine w2_mul ⟨?_, ?_⟩ | refine w2_fdiv ⟨?_, ?_⟩ | refine w2_mod ⟨?_, ?_⟩ | refine w2_pow ⟨?_, ?_⟩ | refine w2_eqI ?_ | refine w2_neI ?_ | refine w2_lt ?_ | refine w2_le ?_ | refine w2_gt ?_ | refine w2_ge ?_ | refine w2_eqFI ?_ | refine w2_neFI ?_)
  | ((with_reducible refine w2_ixT (d := ?d) ⟨?hv, ?hk⟩); case hv => rfl)
  | ((with_reducible refine w2_ixL (d := ?d) ⟨?hv, ?hk⟩); case hv => rfl)
  | ((with_reducible refine w2_ixM (d := ?d) .head ⟨?hv, ?hk⟩); case hv => rfl)
  | (with_reducible first
    | refine w2_eqIH ?_ | refine w2_neIH ?_ | refine w2_mulH ⟨?_, ?_⟩ | refine w2_addH ?_ | refine w2_subH ?_ | refine w2_isN ?_ | refine w2_notN ?_ | refine w2_isB ?_ | refine w2_notB ?_)
  | walk_at "useW2_3")
local macro_rules | `(tactic| walk_at "sWa_3") => `(tactic| with_reducible first | refine wa_nil ?_ | refine wa_cons ?_)
local macro_rules | `(tactic| walk_at "useWs_3") => `(tactic| first | (with_reducible refine ws_rs0 ?_) | (with_reducible refine ws_rs ?_) | fail)
local macro_rules | `(tactic| walk_at "sWs_3") => `(tactic| first
  | (with_reducible first | refine ws_seq ?_ | refine ws_ret ?_ | refine ws_asg ?_ | refine ws_next ?_ | refine ws_drop ?_ | refine ws_par ?_ | refine ws_par3 ?_ | refine ws_fldN ?_ | refine ws_brk ?_ | refine ws_cont ?_)
  | walk_at "useWs_3")
local macro_rules | `(tactic| walk_at "sWt_3") => `(tactic| with_reducible first | refine wt_test ?_ | refine wt_tr ?_ | refine wt_and ?_ | refine wt_or ?_ | refine wt_not ?_)
local macro_rules | `(tactic| walk_at "useWc_3") => `(tactic| first | (with_reducible refine wc_intLI ?_) | (with_reducible refine wc_lenS ?_ ?_) | (with_reducible refine wc_strL (by assumption) (by decide) ?_) | (with_reducible refine wc_isiT .str kit_ss ?_) | (with_reducible refine wc_isiC (.ins (by assumption)) (by assumption) ?_) | (with_reducible refine wc_absI ?_) | fail)
local macro_rules | `(tactic| walk_at "sWc_3") => `(tactic| first
  | (with_reducible first | refine wc_int ?_ | refine wc_abs ?_ | refine wc_min ?_ | refine wc_gcd ?_ | refine wc_isiT .int kit_ii ?_ | refine wc_isiT .int kit_ib ?_ | refine wc_len .lst ?_ | refine wc_len .tup ?_ | refine wc_strI ?_ ?_)
  | walk_at "useWc_3")
local macro_rules | `(tactic| walk_at "sWi_3") => `(tactic| with_reducible first | refine wi_seq ?_ | refine wi_rng1S ?_ | refine wi_rng2 ?_ | refine wi_zipM ?_)
local macro_rules | `(tactic| walk_at "sWg_3") => `(tactic| with_reducible first | refine wg_name ?_ | refine wg_subM ?_ | refine wg_tup rfl ?_)
local macro_rules | `(tactic| walk_at "sW1_3") => `(tactic| first | (with_reducible refine w1_neg ?_) | walk_at "useW2_3")
local macro_rules | `(tactic| walk_at "sWgs_3") => `(tactic| with_reducible first | refine wgs_cons ?_ | refine wgs_nil ?_)
local macro_rules | `(tactic| walk_at "sS_3") => `(tactic| first | (with_reducible refine SlA.mk ?_ ?_) | (with_reducible refine RngA.mk ?_ ?_) | (with_reducible refine LcS.mk ?_ (fun a ha q => ?_) ?_) | (with_reducible exact LcL.mk rfl rfl) | fail)
local macro_rules | `(tactic| walk_at "useT_3") => `(tactic| first | (with_reducible refine mt_of0 (by assumption) (by decide) ?_) | (with_reducible refine RatG.mk ?_ ?_ ?_) | (with_reducible refine @And.intro (@LE.le _ _ _ _) _ ?_ ?_) | fail)
local macro_rules | `(tactic| walk_at "use_3") => `(tactic| walk_at "useT_3")
local macro_rules | `(tactic| walk_at "sX_3") => `(tactic| first
  | (with_reducible refine ⟨_, rfl, ?_⟩)
  | (with_reducible refine fld_top (by assumption) ?_) | (with_reducible refine fld_bottom (by assumption) ?_)
  | (with_reducible refine ⟨_, .bl, ?_⟩)
  | ((with_reducible refine ⟨?h, ?_⟩); case h => rfl)
  | (with_reducible refine ⟨_, _, rfl, ?_⟩)
  | (with_reducible refine ⟨_, _, _, rfl, ?_⟩)
  | walk_at "use_3"
  | (with_reducible refine setN_top (by assumption) ?_) | (with_reducible refine setN_bottom (by assumption) ?_)
  | ((with_reducible refine ⟨_, _, _, ?j, _, rfl, rfl, .head, ?h, .head, ?_⟩); case h => rfl)
  | fail)
local macro_rules | `(tactic| walk_at "st_3") => `(tactic| first
  | ((with_reducible show We _ _ _ _ _ _); walk_at "sWe_3")
  | ((with_reducible show W2 _ _ _ _ _ _ _ _); walk_at "sW2_3")
  | ((with_reducible show Wa _ _ _ _ _ _); walk_at "sWa_3")
  | ((with_reducible show Ws _ _ _ _ _ _); walk_at "sWs_3")
  | ((with_reducible show Wt _ _ _ _ _ _); walk_at "sWt_3")
  | ((with_reducible show Wc _ _ _ _ _ _ _); walk_at "sWc_3")
  | ((with_reducible show Wi _ _ _ _ _ _); walk_at "sWi_3")
  | ((with_reducible show Wg _ _ _ _ _ _ _); walk_at "sWg_3")
  | ((with_reducible show W1 _ _ _ _ _ _ _); walk_at "sW1_3")
  | ((with_reducible show Wgs _ _ _ _ _ _ _); walk_at "sWgs_3")
  | walk_at "sS_3" | walk_at "sX_3" | fail)
local macro_rules | `(tactic| walk_at "br_3") => `(tactic| ((with_reducible refine ⟨fun hb => ?_, fun hb => ?_⟩) <;> (try simp only [decide_eq_true_eq, decide_eq_false_iff_not, Bool.not_eq_true', Bool.not_eq_false', Bool.and_eq_true, Bool.or_eq_true, reduceCtorEq, List.length_map, Bool.not_true, Bool.not_false, DL.isNon, not_true_eq_false, not_false_eq_true, Classical.not_not, List.all_cons, List.all_nil, id_eq, Bool.and_self, Bool.true_and, decide_true, decide_false] at hb)))
local macro_rules | `(tactic| walk_at "gn_3") => `(tactic| repeat' (first | walk_at "st_3" | walk_at "br_3" | fail))
def S_islab : SpecD := fun ds m K _ => ∃ l : List Nat, ds = [ts l] ∧ LabOk l ∧ K (.bl true) m
theorem ok_islab (T : Txt G C_Ratio C_Load C_Book C_OutOfBounds) {f : Addr} {fd : FuncData} (F : L2.Fun G.K "is_label" "is_label" s_is_label f fd) (b : L2.Binds G.K fd ["text"] []) : Fnx G 1 f 1 S_islab [] := by
  refine fnx_of F sc_is_label rfl b .nil rfl (fun cdv A outer s H FF hr tk => ⟨_, (pss_cons (ps_if (pt_not (pt_ch os_le os_le pe_int (pe_cb cs_len rfl T.n_len bt_len (pa_cons (pe_var (i := 0) rfl (Or.inl rfl) nd_text.1 nd_text.2) pa_nil)) (pe_gcD rfl T.gc_LONGEST_LABEL))) (pss_one (ps_ret pe_bl)) pss_nil) (pss_cons (ps_for (passes_of rfl) rfl (pi_str (pe_var (i := 0) rfl (Or.inl rfl) nd_text.1 nd_text.2)) (pg_name (i := 1) sc_is_label.nd rfl (Or.inl rfl)) (pss_one (ps_if (PW.pt (pw_and (pt_cm os_ninS (pe_var (i := 1) rfl (Or.inl rfl) nd_char.1 nd_char.2) (pe_gcD rfl T.gc_LETTERS) rfl) (pw_and1 (pt_cm os_ninS (pe_var (i := 1) rfl (Or.inl rfl) nd_char.1 nd_char.2) (pe_gcD rfl T.gc_DIGITS) rfl)))) (pss_one (ps_ret pe_bl)) pss_nil))) (pss_one (ps_ret pe_bl)))), ?_⟩)
  rintro ds m K E - ⟨l, rfl, hl, k⟩
  show Ws _ _ _ [some (ts l), none] _ _
  try dsimp only [cx_G, cx_K]
  obtain ⟨l1, l2, l3⟩ := hl
  walk_at "gn_3"
  refine ws_if ?_
  walk_at "gn_3"
  all_goals try omega
  refine ws_forI (wi_str (we_var (i := 0) (d := ts l) rfl ⟨_, rfl, fun i r' m'' => m'' = m ∧ ∃ o, r' = [some (ts l), o], ⟨rfl, _, rfl⟩, fun _ _ _ _ => Sub.nil, ?_, ?_⟩))
  · rintro i x r' m'' hx ⟨rfl, o, rfl⟩
    rw [List.getElem?_map] at hx
    obtain ⟨c, hc, rfl⟩ := Option.map_eq_some_iff.mp hx
    have hm := l3 c (List.mem_of_getElem? hc)
    walk_at "gn_3"
    refine ws_if ?_
    walk_at "gn_3"
    · exact absurd hm (fun z => z.elim ‹¬ c ∈ ALN› ‹¬ c ∈ DGT›)
    all_goals exact ⟨_, rfl⟩
  · rintro r' m'' ⟨rfl, o, rfl⟩
    walk_at "gn_3"
    exact k
end
end K22
set_option Elab.async false
set_option linter.all false
set_option maxRecDepth 100000
/-! MBk: weights over one bottom, energy. -/
namespace DL
open PySem PySem.Spec L2
open PyProof.Rows hiding St
def lcD (ls : List Ld) : Nat := ls.foldl (fun o a => Nat.lcm o a.wt.den) 1
def denP (ls : List Ld) : Nat := ls.foldl (fun o a => o * a.wt.den) 1
theorem lcD_snoc (ls : List Ld) (a : Ld) : lcD (ls ++ [a]) = Nat.lcm (lcD ls) a.wt.den := by simp [lcD, List.foldl_append]
theorem denP_snoc (ls : List Ld) (a : Ld) : denP (ls ++ [a]) = denP ls * a.wt.den := by simp [denP, List.foldl_append]
theorem denP_foldl (ls : List Ld) : ∀ o : Nat, ls.foldl (fun o a => o * a.wt.den) o = o * denP ls := by
  unfold denP
  induction ls with
  | nil => simp
  | cons a ls ih =>
    intro o
    rw [List.foldl_cons, List.foldl_cons, ih, ih (1 * a.wt.den)]
    rw [Nat.one_mul, Nat.mul_assoc]
theorem denP_app (ls ms : List Ld) : denP (ls ++ ms) = denP ls * denP ms := by
  unfold denP
  rw [List.foldl_append]
  exact denP_foldl ms _
theorem denP_pos : ∀ ls : List Ld, 0 < denP ls := by
  intro ls
  induction ls with
  | nil => decide
  | cons a ls ih =>
    rw [show a :: ls = [a] ++ ls from rfl, denP_app]
    have : denP [a] = a.wt.den := by simp [denP]
    rw [this]
    exact Nat.mul_pos a.wt.den_pos ih
theorem lcD_dvd_aux : ∀ (ls : List Ld) (o p : Nat), o ∣ p → ls.foldl (fun o a => Nat.lcm o a.wt.den) o ∣ ls.foldl (fun o a => o * a.wt.den) p
  | [], o, p, h => h
  | a :: ls, o, p, h => lcD_dvd_aux ls _ _ (Nat.lcm_dvd (Nat.dvd_mul_right_of_dvd h _) (Nat.dvd_mul_left _ _))
theorem lcD_dvd (ls : List Ld) : lcD ls ∣ denP ls := lcD_dvd_aux ls 1 1 (Nat.dvd_refl 1)
theorem lcD_pos (ls : List Ld) : 0 < lcD ls := Nat.pos_of_dvd_of_pos (lcD_dvd ls) (denP_pos ls)
theorem lcD_le (ls : List Ld) : lcD ls ≤ denP ls := Nat.le_of_dvd (denP_pos ls) (lcD_dvd ls)
theorem lcD_mono (ls ms : List Ld) : lcD ls ∣ lcD (ls ++ ms) := by
  unfold lcD
  rw [List.foldl_append]
  generalize ls.foldl (fun o a => Nat.lcm o a.wt.den) 1 = o
  induction ms generalizing o with
  | nil => exact Nat.dvd_refl _
  | cons a ms ih =>
    rw [List.foldl_cons]
    exact Nat.dvd_trans (Nat.dvd_lcm_left _ _) (ih _)
theorem lcD_mem {ls : List Ld} {a : Ld} (h : a ∈ ls) : a.wt.den ∣ lcD ls := by
  obtain ⟨xs, ys, rfl⟩ := List.append_of_mem h
  have h1 := lcD_mono (xs ++ [a]) ys
  rw [List.append_assoc] at h1
  have h2 : a.wt.den ∣ lcD (xs ++ [a]) := by
    rw [lcD_snoc]
    exact Nat.dvd_lcm_right _ _
  exact Nat.dvd_trans h2 h1
/-- a weight over o -/
def wnum (o : Nat) (a : Ld) : Int := a.wt.num * ((o : Int) / (a.wt.den : Int))
theorem wnum_dv {o : Nat} {a : Ld} (h : a.wt.den ∣ o) (ho : 0 < o) : dv (wnum o a) (o : Int) = a.wt := by
  obtain ⟨k, rfl⟩ := h
  have dp := a.wt.den_pos
  have kp : 0 < k := by
    rcases Nat.eq_zero_or_pos k with e | e
    · rw [e, Nat.mul_zero] at ho
      omega
    · exact e
  have e1 : ((a.wt.den * k : Nat) : Int) / (a.wt.den : Int) = (k : Int) := by
    rw [Int.natCast_mul]
    exact Int.mul_ediv_cancel_left _ (by omega)
  unfold wnum
  rw [e1, Int.natCast_mul, dv_scale (by omega)]
  exact dv_self _
/-- the energy in a direction -/
def enQ (ls : List Ld) (y : List Int) : Rat := (ls.map fun a => a.wt * ((dot a.nums y * dot a.nums y : Int) : Rat)).sum
def enT (o : Nat) (ls : List Ld) (y : List Int) : Int := (ls.map fun a => wnum o a * (dot a.nums y * dot a.nums y)).sum
theorem dv_mulI {t o z : Int} (ho : o ≠ 0) : dv (t * z) o = dv t o * (z : Rat) := by
  have h : (z : Rat) = dv z 1 := dv_int.symm
  rw [h]
  show Rat.divInt _ _ = Rat.divInt _ _ * Rat.divInt _ _
  rw [Rat.divInt_mul_divInt, Int.mul_one]
theorem dv_addI {s t o : Int} (ho : o ≠ 0) : dv (s + t) o = dv s o + dv t o := by
  show Rat.divInt _ _ = Rat.divInt _ _ + Rat.divInt _ _
  rw [Rat.divInt_add_divInt _ _ ho ho, ← Int.add_mul]
  exact (Rat.divInt_mul_right ho).symm
theorem enT_dv {o : Nat} (ho : 0 < o) {y : List Int} : ∀ {ls : List Ld}, (∀ a ∈ ls, a.wt.den ∣ o) → dv (enT o ls y) (o : Int) = enQ ls y
  | [], _ => by
    show dv 0 (o : Int) = 0
    show Rat.divInt 0 _ = 0
    exact Rat.zero_divInt _
  | a :: ls, h => by
    have ih := enT_dv ho (y := y) (ls := ls) fun b hb => h b (List.mem_cons_of_mem _ hb)
    have e1 : enT o (a :: ls) y = wnum o a * (dot a.nums y * dot a.nums y) + enT o ls y := by simp [enT]
    have e2 : enQ (a :: ls) y = a.wt * ((dot a.nums y * dot a.nums y : Int) : Rat) + enQ ls y := by simp [enQ]
    rw [e1, e2, dv_addI (by omega), ih, dv_mulI (by omega), wnum_dv (h a List.mem_cons_self) ho]
end DL
set_option Elab.async false
set_option linter.all false
set_option maxRecDepth 100000
set_option maxHeartbeats 4000000
namespace K22
open PySem PySem.Spec L2 DL
open PyProof.Rows hiding St
open SX (S)
/-! one step, by the goal's head -/

/-! Ratio and Span by numbers: their promises used -/

/-! comprehensions, sums, lists of others -/

/-! books -/

section
variable {G : Gx} {C_Ratio C_Load C_Book C_OutOfBounds : Addr}
local macro_rules | `(tactic| walk_at "fld_1") => `(tactic| (with_reducible refine we_fldF ?_))
local macro_rules | `(tactic| walk_at "useWe_1") => `(tactic| first
  | ((with_reducible apply we_lcs); case gk => first | exact gk_name rfl | exact gk_tup (gks_cons (gk_name rfl) (gks_cons (gk_name rfl) gks_nil)))
  | (with_reducible refine we_slPre ?_) | (with_reducible refine we_slSuf ?_) | (with_reducible refine we_app ?_) | (with_reducible refine we_mt ?_) | (with_reducible refine we_grd ?_) | (with_reducible refine we_ratQ ?_) | (with_reducible refine we_ratQ1 ?_) | fail)
local macro_rules | `(tactic| walk_at "sWe_1") => `(tactic| first
  | ((with_reducible refine we_var (d := ?d) ?hv ?hk); case hv => rfl)
  | (with_reducible first
    | refine we_cint ?_ | refine we_2 ?_ | refine we_cl0 ?_ | refine we_tup ?_ | refine we_1 ?_ | refine we_c2 ?_ | refine we_cbl ?_ | refine we_cnon ?_ | refine we_cty ?_ | refine we_cref ?_
    | refine we_op ?_ | refine we_andV ?_ | refine we_orV ?_ | refine we_notV ?_ | refine we_3 ?_ | refine we_ifx ?_ | refine we_cstr ?_ | refine we_clH ?_)
  | walk_at "fld_1"
  | walk_at "useWe_1")
local macro_rules | `(tactic| walk_at "useW2_1") => `(tactic| first
  | (with_reducible refine w2_eqRN ?_) | (with_reducible refine w2_eqLN ?_) | (with_reducible refine w2_eqLli ?_) | (with_reducible refine w2_eqLi ?_)
  | (with_reducible refine w2_ixT ⟨ix_map0 ?_, ?_⟩) | (with_reducible refine w2_ixL ⟨ix_map0 ?_, ?_⟩) | (with_reducible refine w2_ixT ⟨ix_map ?_, ?_⟩) | (with_reducible refine w2_ixL ⟨ix_map ?_, ?_⟩)
  | (with_reducible refine w2_addO (by assumption) (by decide) .fixed .fixed ?_) | (with_reducible refine w2_subO (by assumption) (by decide) .fixed .fixed ?_) | (with_reducible refine w2_mulO (by assumption) (by decide) .fixed .fixed ?_) | (with_reducible refine w1_negO (by assumption) (by decide) .fixed ?_)
  | (with_reducible refine w2_catL .lst .lst ?_ ?_) | fail)
local macro_rules | `(tactic| walk_at "sW2_1") => `(tactic| first
  | (with_reducible first
    | refine w2_add ?_ | refine w2_sub ?_ | refine w2_mul ⟨?_, ?_⟩ | refine w2_fdiv ⟨?_, ?_⟩ | refine w2_mod ⟨?_, ?_⟩ | refine w2_pow ⟨?_, ?_⟩ | refine w2_eqI ?_ | refine w2_neI ?_ | refine w2_lt ?_ | refine w2_le ?_ | refine w2_gt ?_ | refine w2_ge ?_ | refine w2_eqFI ?_ | refine w2_neFI ?_)
  | ((with_reducible refine w2_ixT (d := ?d) ⟨?hv, ?hk⟩); case hv => rfl)
  | ((with_reducible refine w2_ixL (d := ?d) ⟨?hv, ?hk⟩); case hv => rfl)
  | ((with_reducible refine w2_ixM (d := ?d) .head ⟨?hv, ?hk⟩); case hv => rfl)
  | (with_reducible first
    | refine w2_eqIH ?_ | refine w2_neIH ?_ | refine w2_mulH ⟨?_, ?_⟩ | refine w2_addH ?_ | refine w2_subH ?_ | refine w2_isN ?_ | refine w2_notN ?_ | refine w2_isB ?_ | refine w2_notB ?_)
  | walk_at "useW2_1")
local macro_rules | `(tactic| walk_at "sWa_1") => `(tactic| with_reducible first | refine wa_nil ?_ | refine wa_cons ?_)
local macro_rules | `(tactic| walk_at "useWs_1") => `(tactic| first | (with_reducible refine ws_rs0 ?_) | (with_reducible refine ws_rs ?_) | fail)
local macro_rules | `(tactic| walk_at "sWs_1") => `(tactic| first
  | (with_reducible first | refine ws_seq ?_ | refine ws_ret ?_ | refine ws_asg ?_ | refine ws_next ?_ | refine ws_drop ?_ | refine ws_par ?_ | refine ws_par3 ?_ | refine ws_fldN ?_ | refine ws_brk ?_ | refine ws_cont ?_)
  | walk_at "useWs_1")
local macro_rules | `(tactic| walk_at "sWt_1") => `(tactic| with_reducible first | refine wt_test ?_ | refine wt_tr ?_ | refine wt_and ?_ | refine wt_or ?_ | refine wt_not ?_)
local macro_rules | `(tactic| walk_at "useWc_1") => `(tactic| first
  | (with_reducible refine wc_len (SeqM.len (by assumption)) ?_) | (with_reducible refine wc_sumG ?_) | (with_reducible refine wc_sumI ?_) | (with_reducible refine wc_tupleL .tup ?_) | (with_reducible refine wc_tupleL .lst ?_) | (with_reducible refine wc_listF .tup ?_) | (with_reducible refine wc_listF .lst ?_) | fail)
local macro_rules | `(tactic| walk_at "sWc_1") => `(tactic| first
  | (with_reducible first | refine wc_int ?_ | refine wc_abs ?_ | refine wc_min ?_ | refine wc_gcd ?_ | refine wc_isiT .int kit_ii ?_ | refine wc_isiT .int kit_ib ?_ | refine wc_len .lst ?_ | refine wc_len .tup ?_ | refine wc_strI ?_ ?_)
  | walk_at "useWc_1")
local macro_rules | `(tactic| walk_at "sWi_1") => `(tactic| with_reducible first | refine wi_seq ?_ | refine wi_rng1S ?_ | refine wi_rng2 ?_ | refine wi_zipM ?_)
local macro_rules | `(tactic| walk_at "sWg_1") => `(tactic| with_reducible first | refine wg_name ?_ | refine wg_subM ?_ | refine wg_tup rfl ?_)
local macro_rules | `(tactic| walk_at "sW1_1") => `(tactic| first | (with_reducible refine w1_neg ?_) | walk_at "useW2_1")
local macro_rules | `(tactic| walk_at "sWgs_1") => `(tactic| with_reducible first | refine wgs_cons ?_ | refine wgs_nil ?_)
local macro_rules | `(tactic| walk_at "sS_1") => `(tactic| first | (with_reducible refine SlA.mk ?_ ?_) | (with_reducible refine RngA.mk ?_ ?_) | (with_reducible refine LcS.mk ?_ (fun a ha q => ?_) ?_) | (with_reducible exact LcL.mk rfl rfl) | fail)
local macro_rules | `(tactic| walk_at "sq_1") => `(tactic| first | assumption | exact SeqM.cons (by assumption) | exact SeqM.cons (SeqM.cons (by assumption)))
local macro_rules | `(tactic| walk_at "lst_1") => `(tactic| first
  | (with_reducible refine ⟨_, _, rfl, .head, ?_⟩) | (with_reducible refine ⟨_, _, _, rfl, .head, ?_, .head, ?_⟩) | (with_reducible refine ⟨_, _, .tup, ?_⟩) | (with_reducible refine ⟨_, _, .lst, ?_⟩) | (with_reducible refine ⟨_, _, (by walk_at "sq_1"), ?_⟩)
  | (with_reducible refine ⟨_, _, _, _, _, _, _, _, _, _, rfl, .tup, .tup, ?_⟩) | (with_reducible refine ⟨_, _, _, _, _, _, _, _, _, _, rfl, .tup, .lst, ?_⟩) | (with_reducible refine ⟨_, _, _, _, _, _, _, _, _, _, rfl, .tup, (by walk_at "sq_1"), ?_⟩) | (with_reducible refine ⟨_, _, _, _, _, _, _, _, _, _, rfl, .lst, .tup, ?_⟩) | (with_reducible refine ⟨_, _, _, _, _, _, _, _, _, _, rfl, .lst, .lst, ?_⟩) | (with_reducible refine ⟨_, _, _, _, _, _, _, _, _, _, rfl, .lst, (by walk_at "sq_1"), ?_⟩) | (with_reducible refine ⟨_, _, _, _, _, _, _, _, _, _, rfl, (by walk_at "sq_1"), .tup, ?_⟩) | (with_reducible refine ⟨_, _, _, _, _, _, _, _, _, _, rfl, (by walk_at "sq_1"), .lst, ?_⟩) | (with_reducible refine ⟨_, _, _, _, _, _, _, _, _, _, rfl, (by walk_at "sq_1"), (by walk_at "sq_1"), ?_⟩) | fail)
local macro_rules | `(tactic| walk_at "bks_1") => `(tactic| first
  | (with_reducible refine fld_label (by assumption) ?_) | (with_reducible refine fld_weight (by assumption) ?_) | (with_reducible refine fld_numbers (by assumption) ?_)
  | (with_reducible refine fld_bwidth (by assumption) ?_) | (with_reducible refine fld_loads (by assumption) ?_) | (with_reducible refine fld_places (by assumption) ?_))
local macro_rules | `(tactic| walk_at "use_1") => `(tactic| first | walk_at "lst_1" | walk_at "bks_1" | (with_reducible refine mt_of0 (by assumption) (by decide) ?_) | (with_reducible refine setNG (by assumption) (by assumption) (by decide +kernel) rfl ?_) | (with_reducible refine use_qsign ?_) | fail)
local macro_rules | `(tactic| walk_at "sX_1") => `(tactic| first
  | (with_reducible refine ⟨_, rfl, ?_⟩)
  | (with_reducible refine fld_top (by assumption) ?_) | (with_reducible refine fld_bottom (by assumption) ?_)
  | (with_reducible refine ⟨_, .bl, ?_⟩)
  | ((with_reducible refine ⟨?h, ?_⟩); case h => rfl)
  | (with_reducible refine ⟨_, _, rfl, ?_⟩)
  | (with_reducible refine ⟨_, _, _, rfl, ?_⟩)
  | walk_at "use_1"
  | (with_reducible refine setN_top (by assumption) ?_) | (with_reducible refine setN_bottom (by assumption) ?_)
  | ((with_reducible refine ⟨_, _, _, ?j, _, rfl, rfl, .head, ?h, .head, ?_⟩); case h => rfl)
  | fail)
local macro_rules | `(tactic| walk_at "st_1") => `(tactic| first
  | ((with_reducible show We _ _ _ _ _ _); walk_at "sWe_1")
  | ((with_reducible show W2 _ _ _ _ _ _ _ _); walk_at "sW2_1")
  | ((with_reducible show Wa _ _ _ _ _ _); walk_at "sWa_1")
  | ((with_reducible show Ws _ _ _ _ _ _); walk_at "sWs_1")
  | ((with_reducible show Wt _ _ _ _ _ _); walk_at "sWt_1")
  | ((with_reducible show Wc _ _ _ _ _ _ _); walk_at "sWc_1")
  | ((with_reducible show Wi _ _ _ _ _ _); walk_at "sWi_1")
  | ((with_reducible show Wg _ _ _ _ _ _ _); walk_at "sWg_1")
  | ((with_reducible show W1 _ _ _ _ _ _ _); walk_at "sW1_1")
  | ((with_reducible show Wgs _ _ _ _ _ _ _); walk_at "sWgs_1")
  | walk_at "sS_1" | walk_at "sX_1" | fail)
local macro_rules | `(tactic| walk_at "br_1") => `(tactic| ((with_reducible refine ⟨fun hb => ?_, fun hb => ?_⟩) <;> (try simp only [decide_eq_true_eq, decide_eq_false_iff_not, Bool.not_eq_true', Bool.not_eq_false', Bool.and_eq_true, Bool.or_eq_true, reduceCtorEq, List.length_map, Bool.not_true, Bool.not_false, DL.isNon, not_true_eq_false, not_false_eq_true, Classical.not_not, List.all_cons, List.all_nil, id_eq, Bool.and_self, Bool.true_and, decide_true, decide_false] at hb)))
local macro_rules | `(tactic| walk_at "gn_1") => `(tactic| repeat' (first | walk_at "st_1" | walk_at "br_1" | fail))
def S_rtimes : SpecD := fun ds m K _ => ∃ xs ys x y ps qs, ds = [x, y] ∧ SeqM x m ps (xs.map D.int) ∧ SeqM y m qs (ys.map D.int) ∧ xs.length ≤ 1000 ∧ (∀ a ∈ xs, Bd 20 a) ∧ (∀ a ∈ ys, Bd 1000 a) ∧ K (.int (dot xs ys)) m
theorem ok_rtimes (T : Txt G C_Ratio C_Load C_Book C_OutOfBounds) {f : Addr} {fd : FuncData} (F : L2.Fun G.K "row_times" "row_times" s_row_times f fd) (b : L2.Binds G.K fd ["row", "direction"] []) : Fnx G 1 f 2 S_rtimes [] := by
  refine fnx_of F sc_row_times rfl b .nil rfl (fun cdv A outer s H FF hr tk => ⟨_, (pss_one (ps_ret (pe_cb (oc := cSumF G) (cs_sum rfl) rfl T.n_sum bt_sum (pa_cons (pe_lc (own := [("number", 2), ("step", 3)]) (g := (gTup G.K 2 (gCons (gName 2) (gCons (gName 3) gNil)))) (tt := tYes) rfl sc_row_times.nd (pi_zipK (KK := G.K) (by rfl) rfl T.n_zip (pa_cons (pe_var (i := 0) rfl (Or.inl rfl) nd_row.1 nd_row.2) (pa_cons (pe_var (i := 1) rfl (Or.inl rfl) nd_direction.1 nd_direction.2) pa_nil))) (blkOk_by (N := N_row_times) (sc := (defScope s_row_times)) (by decide +kernel)) (fun _ _ _ _ _ => (pg_tupK (KK := G.K) (by rfl) rfl (pgs_cons (pg_name (i := 2) sc_row_times.nd rfl (Or.inl rfl)) (pgs_cons (pg_name (i := 3) sc_row_times.nd rfl (Or.inl rfl)) pgs_nil)))) (fun _ _ _ _ _ => pts_nil) (fun _ _ _ _ _ => (pe_bin (o := oMul G _ wNo) (os_mul (by exact hr) takes0N) (pe_var (i := 2) rfl (Or.inl rfl) nd_number.1 nd_number.2) (pe_var (i := 3) rfl (Or.inl rfl) nd_step.1 nd_step.2)))) pa_nil)))), ?_⟩)
  rintro ds m K E - ⟨xs, ys, x, y, ps, qs, rfl, sx, sy, lx, bx, yb, k⟩
  show Ws _ _ _ [some x, some y, none, none] _ _
  try dsimp only [cx_G, cx_K]
  walk_at "gn_1"
  · exact Nat.ble_eq_true_of_le (by rw [List.length_zip]; omega)
  · obtain ⟨h1, h2⟩ := List.of_mem_zip ‹_ ∈ xs.zip ys›
    exact (bx _ h1).mulX (yb _ h2) (by decide)
  · exact k
theorem use_islab {l : List Nat} {m : Mu} {K : KT} {E : Ex → Mu → Prop} (h : LabOk l) (k : K (.bl true) m) : S_islab [ts l] m K E := ⟨l, rfl, h, k⟩
local macro_rules | `(tactic| walk_at "fld_2") => `(tactic| (with_reducible refine we_fldF ?_))
local macro_rules | `(tactic| walk_at "useWe_2") => `(tactic| first
  | ((with_reducible apply we_lcs); case gk => first | exact gk_name rfl | exact gk_tup (gks_cons (gk_name rfl) (gks_cons (gk_name rfl) gks_nil)))
  | (with_reducible refine we_slPre ?_) | (with_reducible refine we_slSuf ?_) | (with_reducible refine we_app ?_) | (with_reducible refine we_mt ?_) | (with_reducible refine we_grd ?_) | (with_reducible refine we_ratQ ?_) | (with_reducible refine we_ratQ1 ?_) | fail)
local macro_rules | `(tactic| walk_at "sWe_2") => `(tactic| first
  | ((with_reducible refine we_var (d := ?d) ?hv ?hk); case hv => rfl)
  | (with_reducible first
    | refine we_cint ?_ | refine we_2 ?_ | refine we_cl0 ?_ | refine we_tup ?_ | refine we_1 ?_ | refine we_c2 ?_ | refine we_cbl ?_ | refine we_cnon ?_ | refine we_cty ?_ | refine we_cref ?_
    | refine we_op ?_ | refine we_andV ?_ | refine we_orV ?_ | refine we_notV ?_ | refine we_3 ?_ | refine we_ifx ?_ | refine we_cstr ?_ | refine we_clH ?_)
  | walk_at "fld_2"
  | walk_at "useWe_2")
local macro_rules | `(tactic| walk_at "useW2_2") => `(tactic| first
  | (with_reducible refine w2_eqRN ?_) | (with_reducible refine w2_eqLN ?_) | (with_reducible refine w2_eqLli ?_) | (with_reducible refine w2_eqLi ?_)
  | (with_reducible refine w2_ixT ⟨ix_map0 ?_, ?_⟩) | (with_reducible refine w2_ixL ⟨ix_map0 ?_, ?_⟩) | (with_reducible refine w2_ixT ⟨ix_map ?_, ?_⟩) | (with_reducible refine w2_ixL ⟨ix_map ?_, ?_⟩)
  | (with_reducible refine w2_addO (by assumption) (by decide) .fixed .fixed ?_) | (with_reducible refine w2_subO (by assumption) (by decide) .fixed .fixed ?_) | (with_reducible refine w2_mulO (by assumption) (by decide) .fixed .fixed ?_) | (with_reducible refine w1_negO (by assumption) (by decide) .fixed ?_)
  | (with_reducible refine w2_catL .lst .lst ?_ ?_) | fail)
local macro_rules | `(tactic| walk_at "sW2_2") => `(tactic| first
  | (with_reducible first
    | refine w2_add ?_ | refine w2_sub ?_ | refine w2_mul ⟨?_, ?_⟩ | refine w2_fdiv ⟨?_, ?_⟩ | refine w2_mod ⟨?_, ?_⟩ | refine w2_pow ⟨?_, ?_⟩ | refine w2_eqI ?_ | refine w2_neI ?_ | refine w2_lt ?_ | refine w2_le ?_ | refine w2_gt ?_ | refine w2_ge ?_ | refine w2_eqFI ?_ | refine w2_neFI ?_)
  | ((with_reducible refine w2_ixT (d := ?d) ⟨?hv, ?hk⟩); case hv => rfl)
  | ((with_reducible refine w2_ixL (d := ?d) ⟨?hv, ?hk⟩); case hv => rfl)
  | ((with_reducible refine w2_ixM (d := ?d) .head ⟨?hv, ?hk⟩); case hv => rfl)
  | (with_reducible first
    | refine w2_eqIH ?_ | refine w2_neIH ?_ | refine w2_mulH ⟨?_, ?_⟩ | refine w2_addH ?_ | refine w2_subH ?_ | refine w2_isN ?_ | refine w2_notN ?_ | refine w2_isB ?_ | refine w2_notB ?_)
  | walk_at "useW2_2")
local macro_rules | `(tactic| walk_at "sWa_2") => `(tactic| with_reducible first | refine wa_nil ?_ | refine wa_cons ?_)
local macro_rules | `(tactic| walk_at "useWs_2") => `(tactic| first | (with_reducible refine ws_rs0 ?_) | (with_reducible refine ws_rs ?_) | fail)
local macro_rules | `(tactic| walk_at "sWs_2") => `(tactic| first
  | (with_reducible first | refine ws_seq ?_ | refine ws_ret ?_ | refine ws_asg ?_ | refine ws_next ?_ | refine ws_drop ?_ | refine ws_par ?_ | refine ws_par3 ?_ | refine ws_fldN ?_ | refine ws_brk ?_ | refine ws_cont ?_)
  | walk_at "useWs_2")
local macro_rules | `(tactic| walk_at "sWt_2") => `(tactic| with_reducible first | refine wt_test ?_ | refine wt_tr ?_ | refine wt_and ?_ | refine wt_or ?_ | refine wt_not ?_)
local macro_rules | `(tactic| walk_at "useWc_2") => `(tactic| first
  | (with_reducible refine wc_len (SeqM.len (by assumption)) ?_) | (with_reducible refine wc_sumG ?_) | (with_reducible refine wc_sumI ?_) | (with_reducible refine wc_tupleL .tup ?_) | (with_reducible refine wc_tupleL .lst ?_) | (with_reducible refine wc_listF .tup ?_) | (with_reducible refine wc_listF .lst ?_) | fail)
local macro_rules | `(tactic| walk_at "sWc_2") => `(tactic| first
  | (with_reducible first | refine wc_int ?_ | refine wc_abs ?_ | refine wc_min ?_ | refine wc_gcd ?_ | refine wc_isiT .int kit_ii ?_ | refine wc_isiT .int kit_ib ?_ | refine wc_len .lst ?_ | refine wc_len .tup ?_ | refine wc_strI ?_ ?_)
  | walk_at "useWc_2")
local macro_rules | `(tactic| walk_at "sWi_2") => `(tactic| with_reducible first | refine wi_seq ?_ | refine wi_rng1S ?_ | refine wi_rng2 ?_ | refine wi_zipM ?_)
local macro_rules | `(tactic| walk_at "sWg_2") => `(tactic| with_reducible first | refine wg_name ?_ | refine wg_subM ?_ | refine wg_tup rfl ?_)
local macro_rules | `(tactic| walk_at "sW1_2") => `(tactic| first | (with_reducible refine w1_neg ?_) | walk_at "useW2_2")
local macro_rules | `(tactic| walk_at "sWgs_2") => `(tactic| with_reducible first | refine wgs_cons ?_ | refine wgs_nil ?_)
local macro_rules | `(tactic| walk_at "sS_2") => `(tactic| first | (with_reducible refine SlA.mk ?_ ?_) | (with_reducible refine RngA.mk ?_ ?_) | (with_reducible refine LcS.mk ?_ (fun a ha q => ?_) ?_) | (with_reducible exact LcL.mk rfl rfl) | fail)
local macro_rules | `(tactic| walk_at "sq_2") => `(tactic| first | assumption | exact SeqM.cons (by assumption) | exact SeqM.cons (SeqM.cons (by assumption)))
local macro_rules | `(tactic| walk_at "lst_2") => `(tactic| first
  | (with_reducible refine ⟨_, _, rfl, .head, ?_⟩) | (with_reducible refine ⟨_, _, _, rfl, .head, ?_, .head, ?_⟩) | (with_reducible refine ⟨_, _, .tup, ?_⟩) | (with_reducible refine ⟨_, _, .lst, ?_⟩) | (with_reducible refine ⟨_, _, (by walk_at "sq_2"), ?_⟩)
  | (with_reducible refine ⟨_, _, _, _, _, _, _, _, _, _, rfl, .tup, .tup, ?_⟩) | (with_reducible refine ⟨_, _, _, _, _, _, _, _, _, _, rfl, .tup, .lst, ?_⟩) | (with_reducible refine ⟨_, _, _, _, _, _, _, _, _, _, rfl, .tup, (by walk_at "sq_2"), ?_⟩) | (with_reducible refine ⟨_, _, _, _, _, _, _, _, _, _, rfl, .lst, .tup, ?_⟩) | (with_reducible refine ⟨_, _, _, _, _, _, _, _, _, _, rfl, .lst, .lst, ?_⟩) | (with_reducible refine ⟨_, _, _, _, _, _, _, _, _, _, rfl, .lst, (by walk_at "sq_2"), ?_⟩) | (with_reducible refine ⟨_, _, _, _, _, _, _, _, _, _, rfl, (by walk_at "sq_2"), .tup, ?_⟩) | (with_reducible refine ⟨_, _, _, _, _, _, _, _, _, _, rfl, (by walk_at "sq_2"), .lst, ?_⟩) | (with_reducible refine ⟨_, _, _, _, _, _, _, _, _, _, rfl, (by walk_at "sq_2"), (by walk_at "sq_2"), ?_⟩) | fail)
local macro_rules | `(tactic| walk_at "bks_2") => `(tactic| first
  | (with_reducible refine fld_label (by assumption) ?_) | (with_reducible refine fld_weight (by assumption) ?_) | (with_reducible refine fld_numbers (by assumption) ?_)
  | (with_reducible refine fld_bwidth (by assumption) ?_) | (with_reducible refine fld_loads (by assumption) ?_) | (with_reducible refine fld_places (by assumption) ?_))
local macro_rules | `(tactic| walk_at "use_2") => `(tactic| first | walk_at "lst_2" | walk_at "bks_2" | (with_reducible refine mt_of0 (by assumption) (by decide) ?_) | (with_reducible refine setNG (by assumption) (by assumption) (by decide +kernel) rfl ?_) | (with_reducible refine use_qsign ?_) | (with_reducible refine use_islab ?_ ?_) | fail)
local macro_rules | `(tactic| walk_at "sX_2") => `(tactic| first
  | (with_reducible refine ⟨_, rfl, ?_⟩)
  | (with_reducible refine fld_top (by assumption) ?_) | (with_reducible refine fld_bottom (by assumption) ?_)
  | (with_reducible refine ⟨_, .bl, ?_⟩)
  | ((with_reducible refine ⟨?h, ?_⟩); case h => rfl)
  | (with_reducible refine ⟨_, _, rfl, ?_⟩)
  | (with_reducible refine ⟨_, _, _, rfl, ?_⟩)
  | walk_at "use_2"
  | (with_reducible refine setN_top (by assumption) ?_) | (with_reducible refine setN_bottom (by assumption) ?_)
  | ((with_reducible refine ⟨_, _, _, ?j, _, rfl, rfl, .head, ?h, .head, ?_⟩); case h => rfl)
  | fail)
local macro_rules | `(tactic| walk_at "st_2") => `(tactic| first
  | ((with_reducible show We _ _ _ _ _ _); walk_at "sWe_2")
  | ((with_reducible show W2 _ _ _ _ _ _ _ _); walk_at "sW2_2")
  | ((with_reducible show Wa _ _ _ _ _ _); walk_at "sWa_2")
  | ((with_reducible show Ws _ _ _ _ _ _); walk_at "sWs_2")
  | ((with_reducible show Wt _ _ _ _ _ _); walk_at "sWt_2")
  | ((with_reducible show Wc _ _ _ _ _ _ _); walk_at "sWc_2")
  | ((with_reducible show Wi _ _ _ _ _ _); walk_at "sWi_2")
  | ((with_reducible show Wg _ _ _ _ _ _ _); walk_at "sWg_2")
  | ((with_reducible show W1 _ _ _ _ _ _ _); walk_at "sW1_2")
  | ((with_reducible show Wgs _ _ _ _ _ _ _); walk_at "sWgs_2")
  | walk_at "sS_2" | walk_at "sX_2" | fail)
local macro_rules | `(tactic| walk_at "wif_2") => `(tactic| (with_reducible refine ws_if ?_))
local macro_rules | `(tactic| walk_at "br_2") => `(tactic| ((with_reducible refine ⟨fun hb => ?_, fun hb => ?_⟩) <;> (try simp only [decide_eq_true_eq, decide_eq_false_iff_not, Bool.not_eq_true', Bool.not_eq_false', Bool.and_eq_true, Bool.or_eq_true, reduceCtorEq, List.length_map, Bool.not_true, Bool.not_false, DL.isNon, not_true_eq_false, not_false_eq_true, Classical.not_not, List.all_cons, List.all_nil, id_eq, Bool.and_self, Bool.true_and, decide_true, decide_false] at hb)))
local macro_rules | `(tactic| walk_at "go_2") => `(tactic| repeat' (first | walk_at "st_2" | walk_at "wif_2" | walk_at "br_2" | fail))
local macro_rules | `(tactic| walk_at "gn_2") => `(tactic| repeat' (first | walk_at "st_2" | walk_at "br_2" | fail))
def S_load (C CR : Addr) : SpecD := fun ds m K _ => ∃ x m0 a nd, ds = [.ref x, ts a.lab, rq CR a.wt, nd] ∧ m = (x, .ins C [] []) :: m0 ∧ LdOk a ∧ (nd = li a.nums ∨ nd = tup a.nums) ∧ K .non ((x, .ins C lN [ts a.lab, rq CR a.wt, tup a.nums]) :: m0)
theorem ok_load (T : Txt G C_Ratio C_Load C_Book C_OutOfBounds) (m_Ratio_sign : Met G 1 C_Ratio ["top", "bottom"] "sign" 1 (S_qsign C_Ratio) []) (c_is_label : Cal G 1 "is_label" 1 S_islab []) {f : Addr} {fd : FuncData} (F : L2.Fun G.K "__init__" "Load.__init__" s_Load___init__ f fd) (b : L2.Binds G.K fd ["self", "label", "weight", "numbers"] []) : Fnx G 3 f 4 (S_load C_Load C_Ratio) [] := by
  refine fnx_of F sc_Load___init__ rfl b .nil rfl (fun cdv A outer s H FF hr tk => ⟨_, (pss_cons (ps_if (pt_not (pt_tr (pe_cl c_is_label hr (by decide) tk rfl (pa_cons (pe_var (i := 1) rfl (Or.inl rfl) nd_label.1 nd_label.2) pa_nil)))) (pss_one ps_never) pss_nil) (pss_cons (ps_if (pt_cm os_le (pe_mth0 hr tk (pe_var (i := 2) rfl (Or.inl rfl) nd_weight.1 nd_weight.2)) pe_int (nomark _)) (pss_one ps_never) pss_nil) (pss_cons (ps_if (pt_not (pt_ch os_le os_le pe_int (pe_cb cs_len rfl T.n_len bt_len (pa_cons (pe_var (i := 3) rfl (Or.inl rfl) nd_numbers.1 nd_numbers.2) pa_nil)) (pe_gcD rfl T.gc_MOST_NUMBERS))) (pss_one ps_never) pss_nil) (pss_cons (ps_for (passes_of rfl) rfl (pi_seq (pe_var (i := 3) rfl (Or.inl rfl) nd_numbers.1 nd_numbers.2)) (pg_name (i := 4) sc_Load___init__.nd rfl (Or.inl rfl)) (pss_one (ps_if (pt_not (pt_ch os_le os_le (pe_una (us_neg hr tk) (pe_gcD rfl T.gc_LARGEST)) (pe_var (i := 4) rfl (Or.inl rfl) nd_number.1 nd_number.2) (pe_gcD rfl T.gc_LARGEST))) (pss_one (ps_rs T.x_OutOfBounds rfl hr (by decide) tk rfl (pa_cons (pe_var (i := 4) rfl (Or.inl rfl) nd_number.1 nd_number.2) pa_nil))) pss_nil))) (pss_cons (ps_fld (pe_var (i := 0) rfl (Or.inl rfl) nd_self.1 nd_self.2) (pe_var (i := 1) rfl (Or.inl rfl) nd_label.1 nd_label.2) rfl) (pss_cons (ps_fld (pe_var (i := 0) rfl (Or.inl rfl) nd_self.1 nd_self.2) (pe_var (i := 2) rfl (Or.inl rfl) nd_weight.1 nd_weight.2) rfl) (pss_one (ps_fld (pe_var (i := 0) rfl (Or.inl rfl) nd_self.1 nd_self.2) (pe_ct (oc := cTupleF G) cs_tuple rfl T.n_tuple bt_tuple (pa_cons (pe_var (i := 3) rfl (Or.inl rfl) nd_numbers.1 nd_numbers.2) pa_nil)) rfl)))))))), ?_⟩)
  rintro ds m K E - ⟨x, m0, a, nd, rfl, rfl, ok, hn, k⟩
  show Ws _ _ _ [some (.ref x), some (ts a.lab), some (rq C_Ratio a.wt), some nd, none] _ _
  try dsimp only [cx_G, cx_K]
  obtain ⟨LI, y1, y2, y3⟩ := T.L_Load
  have LC := LI.cl
  have hs : cq a.wt 0 = 1 := by
    unfold cq
    have h := ok.wt
    rw [if_neg (by grind), if_pos h]
  have hl := ok.lab
  have l1 := ok.n1
  have l2 := ok.n2
  have ln : ((a.nums.map D.int).length : Nat) = a.nums.length := List.length_map ..
  have sq : SeqD nd (a.nums.map D.int) := by
    rcases hn with rfl | rfl
    · exact .lst
    · exact .tup
  have sm : ∀ m, SeqM nd m [] (a.nums.map D.int) := fun m => by
    rcases hn with rfl | rfl
    · exact .lst
    · exact .tup
  have sm0 := sm ((x, .ins C_Load [] []) :: m0)
  walk_at "go_2"
  all_goals try rw [ln]
  all_goals try first | exact hl | omega
  refine ws_seqI (we_var (i := 3) (d := nd) rfl ⟨_, fun i r' m' => m' = (x, .ins C_Load [] []) :: m0 ∧ ∃ o, r' = [some (.ref x), some (ts a.lab), some (rq C_Ratio a.wt), some nd, o], sq, ⟨rfl, _, rfl⟩, ?_, ?_⟩)
  · rintro i y r' m' hy ⟨rfl, o, rfl⟩
    rw [List.getElem?_map] at hy
    obtain ⟨z, hz, rfl⟩ := Option.map_eq_some_iff.mp hy
    have hb := ok.nb z (List.mem_of_getElem? hz)
    walk_at "go_2"
    all_goals try omega
    exact ⟨_, rfl⟩
  · rintro r' m' ⟨rfl, o, rfl⟩
    walk_at "go_2"
    refine wc_tupleL (sm _) ?_
    walk_at "go_2"
    exact k
def S_blen (CB CL CR : Addr) : SpecD := fun ds m K _ => ∃ w ls, ds = [bkD CB CL CR w ls] ∧ K (.int (ls.length : Nat)) m
theorem ok_blen (T : Txt G C_Ratio C_Load C_Book C_OutOfBounds) {f : Addr} {fd : FuncData} (F : L2.Fun G.K "__len__" "Book.__len__" s_Book___len__ f fd) (b : L2.Binds G.K fd ["self"] []) : Fnx G 1 f 1 (S_blen C_Book C_Load C_Ratio) [] := by
  refine fnx_of F sc_Book___len__ rfl b .nil rfl (fun cdv A outer s H FF hr tk => ⟨_, (pss_one (ps_ret (pe_cb cs_len rfl T.n_len bt_len (pa_cons (pe_fld (pe_var (i := 0) rfl (Or.inl rfl) nd_self.1 nd_self.2) rfl) pa_nil)))), ?_⟩)
  rintro ds m K E - ⟨w, ls, rfl, k⟩
  show Ws _ _ _ [some (bkD C_Book C_Load C_Ratio w ls)] _ _
  try dsimp only [cx_G, cx_K]
  have BC := T.B_Book
  walk_at "gn_2"
  rw [List.length_map]
  exact k
end
end K22
set_option Elab.async false
set_option linter.all false
set_option maxRecDepth 100000
set_option maxHeartbeats 4000000
namespace K22
open PySem PySem.Spec L2 DL
open PyProof.Rows hiding St
open SX (S)
/-! one step, by the goal's head -/

/-! Ratio and Span by numbers: their promises used -/

/-! comprehensions, sums, lists of others -/

/-! books -/

theorem take_succ' {α : Type} {l : List α} {k : Nat} {a : α} (h : l[k]? = some a) : l.take (k + 1) = l.take k ++ [a] := by rw [List.take_add_one, h]; rfl
theorem zip_map_self {α β : Type} {f : α → β} : ∀ {l : List α}, l.zip (l.map f) = l.map fun a => (a, f a)
  | [] => rfl
  | a :: l => by rw [List.map_cons, List.zip_cons_cons, zip_map_self]; rfl
theorem enT_snoc {o : Nat} {ls : List Ld} {a : Ld} {y : List Int} : enT o (ls ++ [a]) y = enT o ls y + wnum o a * (dot a.nums y * dot a.nums y) := by simp [enT]
section
variable {G : Gx} {C_Ratio C_Load C_Book C_OutOfBounds : Addr}
theorem use_rtimes {xs ys : List Int} {x y : D} {ps qs : List Addr} {m : Mu} {K : KT} {E : Ex → Mu → Prop} (sx : SeqM x m ps (xs.map D.int)) (sy : SeqM y m qs (ys.map D.int)) (h1 : xs.length ≤ 1000) (h2 : ∀ a ∈ xs, Bd 20 a) (h3 : ∀ a ∈ ys, Bd 1000 a) (k : K (.int (dot xs ys)) m) : S_rtimes [x, y] m K E := ⟨xs, ys, x, y, ps, qs, rfl, sx, sy, h1, h2, h3, k⟩
local macro_rules | `(tactic| walk_at "fld_1") => `(tactic| (with_reducible refine we_fldF ?_))
local macro_rules | `(tactic| walk_at "useWe_1") => `(tactic| first | (with_reducible refine we_mt ?_) | (with_reducible refine we_ratQ ?_) | (with_reducible refine we_tup ?_) | fail)
local macro_rules | `(tactic| walk_at "sWe_1") => `(tactic| first
  | ((with_reducible refine we_var (d := ?d) ?hv ?hk); case hv => rfl)
  | (with_reducible first
    | refine we_cint ?_ | refine we_2 ?_ | refine we_cl0 ?_ | refine we_tup ?_ | refine we_1 ?_ | refine we_c2 ?_ | refine we_cbl ?_ | refine we_cnon ?_ | refine we_cty ?_ | refine we_cref ?_
    | refine we_op ?_ | refine we_andV ?_ | refine we_orV ?_ | refine we_notV ?_ | refine we_3 ?_ | refine we_ifx ?_ | refine we_cstr ?_ | refine we_clH ?_)
  | walk_at "fld_1"
  | walk_at "useWe_1")
local macro_rules | `(tactic| walk_at "useW2_1") => `(tactic| first
  | (with_reducible refine w2_eqRN ?_) | (with_reducible refine w2_eqLN ?_) | (with_reducible refine w2_eqLli ?_) | (with_reducible refine w2_eqLi ?_)
  | (with_reducible refine w2_ixT ⟨ix_map0 ?_, ?_⟩) | (with_reducible refine w2_ixL ⟨ix_map0 ?_, ?_⟩) | (with_reducible refine w2_ixT ⟨ix_map ?_, ?_⟩) | (with_reducible refine w2_ixL ⟨ix_map ?_, ?_⟩)
  | (with_reducible refine w2_addO (by assumption) (by decide) .fixed .fixed ?_) | (with_reducible refine w2_subO (by assumption) (by decide) .fixed .fixed ?_) | (with_reducible refine w2_mulO (by assumption) (by decide) .fixed .fixed ?_) | (with_reducible refine w1_negO (by assumption) (by decide) .fixed ?_)
  | (with_reducible refine w2_catL .lst .lst ?_ ?_) | fail)
local macro_rules | `(tactic| walk_at "sW2_1") => `(tactic| first
  | (with_reducible first
    | refine w2_add ?_ | refine w2_sub ?_ | refine w2_mul ⟨?_, ?_⟩ | refine w2_fdiv ⟨?_, ?_⟩ | refine w2_mod ⟨?_, ?_⟩ | refine w2_pow ⟨?_, ?_⟩ | refine w2_eqI ?_ | refine w2_neI ?_ | refine w2_lt ?_ | refine w2_le ?_ | refine w2_gt ?_ | refine w2_ge ?_ | refine w2_eqFI ?_ | refine w2_neFI ?_)
  | ((with_reducible refine w2_ixT (d := ?d) ⟨?hv, ?hk⟩); case hv => rfl)
  | ((with_reducible refine w2_ixL (d := ?d) ⟨?hv, ?hk⟩); case hv => rfl)
  | ((with_reducible refine w2_ixM (d := ?d) .head ⟨?hv, ?hk⟩); case hv => rfl)
  | (with_reducible first
    | refine w2_eqIH ?_ | refine w2_neIH ?_ | refine w2_mulH ⟨?_, ?_⟩ | refine w2_addH ?_ | refine w2_subH ?_ | refine w2_isN ?_ | refine w2_notN ?_ | refine w2_isB ?_ | refine w2_notB ?_)
  | walk_at "useW2_1")
local macro_rules | `(tactic| walk_at "sWa_1") => `(tactic| with_reducible first | refine wa_nil ?_ | refine wa_cons ?_)
local macro_rules | `(tactic| walk_at "useWs_1") => `(tactic| first | (with_reducible refine ws_rs0 ?_) | (with_reducible refine ws_rs ?_) | fail)
local macro_rules | `(tactic| walk_at "sWs_1") => `(tactic| first
  | (with_reducible first | refine ws_seq ?_ | refine ws_ret ?_ | refine ws_asg ?_ | refine ws_next ?_ | refine ws_drop ?_ | refine ws_par ?_ | refine ws_par3 ?_ | refine ws_fldN ?_ | refine ws_brk ?_ | refine ws_cont ?_)
  | walk_at "useWs_1")
local macro_rules | `(tactic| walk_at "sWt_1") => `(tactic| with_reducible first | refine wt_test ?_ | refine wt_tr ?_ | refine wt_and ?_ | refine wt_or ?_ | refine wt_not ?_)
local macro_rules | `(tactic| walk_at "useWc_1") => `(tactic| first | (with_reducible refine wc_len .tup ?_) | (with_reducible refine wc_len .lst ?_) | (with_reducible refine wc_tupleL .tup ?_) | (with_reducible refine wc_tupleL .lst ?_) | fail)
local macro_rules | `(tactic| walk_at "sWc_1") => `(tactic| first
  | (with_reducible first | refine wc_int ?_ | refine wc_abs ?_ | refine wc_min ?_ | refine wc_gcd ?_ | refine wc_isiT .int kit_ii ?_ | refine wc_isiT .int kit_ib ?_ | refine wc_len .lst ?_ | refine wc_len .tup ?_ | refine wc_strI ?_ ?_)
  | walk_at "useWc_1")
local macro_rules | `(tactic| walk_at "sWi_1") => `(tactic| with_reducible first | refine wi_seq ?_ | refine wi_rng1S ?_ | refine wi_rng2 ?_ | refine wi_zipM ?_)
local macro_rules | `(tactic| walk_at "sWg_1") => `(tactic| with_reducible first | refine wg_name ?_ | refine wg_subM ?_ | refine wg_tup rfl ?_)
local macro_rules | `(tactic| walk_at "sW1_1") => `(tactic| first | (with_reducible refine w1_neg ?_) | walk_at "useW2_1")
local macro_rules | `(tactic| walk_at "sWgs_1") => `(tactic| with_reducible first | refine wgs_cons ?_ | refine wgs_nil ?_)
local macro_rules | `(tactic| walk_at "sS_1") => `(tactic| first | (with_reducible refine SlA.mk ?_ ?_) | (with_reducible refine RngA.mk ?_ ?_) | (with_reducible refine LcS.mk ?_ (fun a ha q => ?_) ?_) | (with_reducible exact LcL.mk rfl rfl) | fail)
local macro_rules | `(tactic| walk_at "bks_1") => `(tactic| first
  | (with_reducible refine fld_label (by assumption) ?_) | (with_reducible refine fld_weight (by assumption) ?_) | (with_reducible refine fld_numbers (by assumption) ?_)
  | (with_reducible refine fld_bwidth (by assumption) ?_) | (with_reducible refine fld_loads (by assumption) ?_) | (with_reducible refine fld_places (by assumption) ?_))
local macro_rules | `(tactic| walk_at "use_1") => `(tactic| first | walk_at "bks_1" | (with_reducible refine mt_of0 (by assumption) (by decide) ?_) | (with_reducible refine RatQ.mk ?_ ?_ ?_) | (with_reducible refine setNG (by assumption) (by assumption) (by decide +kernel) rfl ?_) | fail)
local macro_rules | `(tactic| walk_at "sX_1") => `(tactic| first
  | (with_reducible refine ⟨_, rfl, ?_⟩)
  | (with_reducible refine fld_top (by assumption) ?_) | (with_reducible refine fld_bottom (by assumption) ?_)
  | (with_reducible refine ⟨_, .bl, ?_⟩)
  | ((with_reducible refine ⟨?h, ?_⟩); case h => rfl)
  | (with_reducible refine ⟨_, _, rfl, ?_⟩)
  | (with_reducible refine ⟨_, _, _, rfl, ?_⟩)
  | walk_at "use_1"
  | (with_reducible refine setN_top (by assumption) ?_) | (with_reducible refine setN_bottom (by assumption) ?_)
  | ((with_reducible refine ⟨_, _, _, ?j, _, rfl, rfl, .head, ?h, .head, ?_⟩); case h => rfl)
  | fail)
local macro_rules | `(tactic| walk_at "st_1") => `(tactic| first
  | ((with_reducible show We _ _ _ _ _ _); walk_at "sWe_1")
  | ((with_reducible show W2 _ _ _ _ _ _ _ _); walk_at "sW2_1")
  | ((with_reducible show Wa _ _ _ _ _ _); walk_at "sWa_1")
  | ((with_reducible show Ws _ _ _ _ _ _); walk_at "sWs_1")
  | ((with_reducible show Wt _ _ _ _ _ _); walk_at "sWt_1")
  | ((with_reducible show Wc _ _ _ _ _ _ _); walk_at "sWc_1")
  | ((with_reducible show Wi _ _ _ _ _ _); walk_at "sWi_1")
  | ((with_reducible show Wg _ _ _ _ _ _ _); walk_at "sWg_1")
  | ((with_reducible show W1 _ _ _ _ _ _ _); walk_at "sW1_1")
  | ((with_reducible show Wgs _ _ _ _ _ _ _); walk_at "sWgs_1")
  | walk_at "sS_1" | walk_at "sX_1" | fail)
local macro_rules | `(tactic| walk_at "wif_1") => `(tactic| (with_reducible refine ws_if ?_))
local macro_rules | `(tactic| walk_at "br_1") => `(tactic| ((with_reducible refine ⟨fun hb => ?_, fun hb => ?_⟩) <;> (try simp only [decide_eq_true_eq, decide_eq_false_iff_not, Bool.not_eq_true', Bool.not_eq_false', Bool.and_eq_true, Bool.or_eq_true, reduceCtorEq, List.length_map, Bool.not_true, Bool.not_false, DL.isNon, not_true_eq_false, not_false_eq_true, Classical.not_not, List.all_cons, List.all_nil, id_eq, Bool.and_self, Bool.true_and, decide_true, decide_false] at hb)))
local macro_rules | `(tactic| walk_at "go_1") => `(tactic| repeat' (first | walk_at "st_1" | walk_at "wif_1" | walk_at "br_1" | fail))
local macro_rules | `(tactic| walk_at "gn_1") => `(tactic| repeat' (first | walk_at "st_1" | walk_at "br_1" | fail))
def S_book (CB CL CR : Addr) : SpecD := fun ds m K _ => ∃ x m0 w ls, ds = [.ref x, .int (w : Nat), .lst (ls.map (ldD CL CR))] ∧ m = (x, .ins CB [] []) :: m0 ∧ BkOk w ls ∧ K .non ((x, .ins CB bN [.int (w : Nat), .tup (ls.map (ldD CL CR)), .dic (plc ls)]) :: m0)
theorem ok_book (T : Txt G C_Ratio C_Load C_Book C_OutOfBounds) {f : Addr} {fd : FuncData} (F : L2.Fun G.K "__init__" "Book.__init__" s_Book___init__ f fd) (b : L2.Binds G.K fd ["self", "width", "loads"] []) : Fnx G 3 f 3 (S_book C_Book C_Load C_Ratio) [] := by
  refine fnx_of F sc_Book___init__ rfl b .nil rfl (fun cdv A outer s H FF hr tk => ⟨_, (pss_cons (ps_if (pt_not (pt_ch os_le os_le pe_int (pe_var (i := 1) rfl (Or.inl rfl) nd_width.1 nd_width.2) (pe_gcD rfl T.gc_MOST_NUMBERS))) (pss_one (ps_rs T.x_OutOfBounds rfl hr (by decide) tk rfl (pa_cons (pe_var (i := 1) rfl (Or.inl rfl) nd_width.1 nd_width.2) pa_nil))) pss_nil) (pss_cons (ps_if (pt_cm os_gt (pe_cb cs_len rfl T.n_len bt_len (pa_cons (pe_var (i := 2) rfl (Or.inl rfl) nd_loads.1 nd_loads.2) pa_nil)) (pe_gcD rfl T.gc_MOST_LOADS) (nomark _)) (pss_one ps_never) pss_nil) (pss_cons (ps_set (i := 3) sc_Book___init__.nd rfl (Or.inl rfl) pe_dnewK) (pss_cons (ps_for (passes_of rfl) rfl (pi_enumK (KK := G.K) (by rfl) rfl T.n_enumerate (pa_cons (pe_var (i := 2) rfl (Or.inl rfl) nd_loads.1 nd_loads.2) pa_nil)) (pg_tup rfl (pgs_cons (pg_name (i := 4) sc_Book___init__.nd rfl (Or.inl rfl)) (pgs_cons (pg_name (i := 5) sc_Book___init__.nd rfl (Or.inl rfl)) pgs_nil))) (pss_cons (ps_if (pt_cm (os_neF hr tk) (pe_cb cs_len rfl T.n_len bt_len (pa_cons (pe_fld (pe_var (i := 5) rfl (Or.inl rfl) nd_entry.1 nd_entry.2) rfl) pa_nil)) (pe_var (i := 1) rfl (Or.inl rfl) nd_width.1 nd_width.2) (nomark _)) (pss_one ps_never) pss_nil) (pss_cons (ps_if (pt_cm (os_inDc hr) (pe_fld (pe_var (i := 5) rfl (Or.inl rfl) nd_entry.1 nd_entry.2) rfl) (pe_var (i := 3) rfl (Or.inl rfl) nd_places.1 nd_places.2) rfl) (pss_one ps_never) pss_nil) (pss_one (ps_dput (roomD hr) (pe_var (i := 3) rfl (Or.inl rfl) nd_places.1 nd_places.2) (pe_fld (pe_var (i := 5) rfl (Or.inl rfl) nd_entry.1 nd_entry.2) rfl) (pe_var (i := 4) rfl (Or.inl rfl) nd_at.1 nd_at.2) (by rfl)))))) (pss_cons (ps_fld (pe_var (i := 0) rfl (Or.inl rfl) nd_self.1 nd_self.2) (pe_var (i := 1) rfl (Or.inl rfl) nd_width.1 nd_width.2) rfl) (pss_cons (ps_fld (pe_var (i := 0) rfl (Or.inl rfl) nd_self.1 nd_self.2) (pe_ct (oc := cTupleF G) cs_tuple rfl T.n_tuple bt_tuple (pa_cons (pe_var (i := 2) rfl (Or.inl rfl) nd_loads.1 nd_loads.2) pa_nil)) rfl) (pss_one (ps_fld (pe_var (i := 0) rfl (Or.inl rfl) nd_self.1 nd_self.2) (pe_var (i := 3) rfl (Or.inl rfl) nd_places.1 nd_places.2) rfl)))))))), ?_⟩)
  rintro ds m K E - ⟨x, m0, w, ls, rfl, rfl, ok, k⟩
  show Ws _ _ _ [some (.ref x), some (.int (w : Nat)), some (.lst (ls.map (ldD C_Load C_Ratio))), none, none, none] _ _
  try dsimp only [cx_G, cx_K]
  obtain ⟨BI, y1, y2, y3⟩ := T.B_Book
  have BC := BI.cl
  have LD := T.L_Load
  have w1 := ok.w1
  have w2 := ok.w2
  have wl := ok.len
  walk_at "go_1"
  all_goals try rw [List.length_map]
  all_goals try omega
  refine we_dnewK fun q hq => ?_
  walk_at "gn_1"
  let RR : Option D → Option D → Rho := fun o1 o2 => [some (.ref x), some (.int (w : Nat)), some (.lst (ls.map (ldD C_Load C_Ratio))), some (.ref q), o1, o2]
  refine ws_forI (wi_enum ?_)
  walk_at "gn_1"
  refine ⟨fun i r' m' => m' = (q, .dic (plc (ls.take i))) :: (x, .ins C_Book [] []) :: m0 ∧ ∃ o1 o2, r' = RR o1 o2, ⟨by rw [List.take_zero]; rfl, _, _, rfl⟩, fun _ _ _ _ => Sub.nil, ?_, ?_⟩
  · rintro i y r' m' hy ⟨rfl, o1, o2, rfl⟩
    have hi : i < ls.length := by
      have := (List.getElem?_eq_some_iff.mp hy).1
      rw [enD_len, List.length_map] at this
      exact this
    obtain ⟨a, ha⟩ : ∃ a, ls[i]? = some a := ⟨ls[i], List.getElem?_eq_getElem hi⟩
    have ea : (enD (ls.map (ldD C_Load C_Ratio)))[i]? = some (.tup [.int (i : Nat), ldD C_Load C_Ratio a]) := enD_get (by rw [List.getElem?_map, ha]; rfl)
    rw [ea] at hy
    injection hy with hy
    subst hy
    have hm := List.mem_of_getElem? ha
    have hwd := ok.wid a hm
    have hnew : a.lab ∉ (ls.take i).map (·.lab) := by
      intro z
      have nd := ok.nd
      rw [← List.take_append_drop i ls, List.map_append] at nd
      have hd : ls.drop i = a :: ls.drop (i + 1) := by
        rw [List.drop_eq_getElem_cons hi]
        congr 1
        rw [List.getElem?_eq_getElem hi] at ha
        injection ha
      rw [hd, List.map_cons] at nd
      exact (List.nodup_append.mp nd).2.2 _ z _ List.mem_cons_self rfl
    have hv := plc_val hnew
    walk_at "gn_1"
    refine ws_if ?_
    walk_at "gn_1"
    · exfalso
      omega
    refine ws_if ?_
    walk_at "gn_1"
    refine w2_inDc (GetD.k (k := Sum.inr (S a.lab)) .head) ?_
    rw [hv, show (none : Option D).isSome = false from rfl]
    walk_at "gn_1"
    refine ws_dput ?_
    walk_at "gn_1"
    refine ⟨_, PutD.k (k := Sum.inr (S a.lab)) .head (by unfold plc; rw [List.length_map, List.length_zipIdx, List.length_take]; omega) .head, ?_, ?_⟩
    · rw [putD_new _ hv, take_succ' ha, plc_snoc, List.length_take, Nat.min_eq_left (by omega)]
    · exact ⟨_, _, rfl⟩
  · rintro r' m' ⟨rfl, o1, o2, rfl⟩
    rw [enD_len, List.length_map, List.take_length]
    refine Ws.freezeD (i := 3) rfl ?_
    walk_at "gn_1"
    exact k
theorem _root_.DL.BkOk.mem {w : Nat} {ls : List Ld} (h : BkOk w ls) {a : Ld} (ha : a ∈ ls) : LdOk a := h.ok a ha
structure LsB (ls : List Ld) : Prop where
  len : ls.length ≤ 200
  qb : ∀ a ∈ ls, Qb 2000 a.wt
  dp : Bd 8000 (denP ls : Nat)
def S_wwts (CL CR : Addr) : SpecD := fun ds m K _ => ∃ ls, ds = [.tup (ls.map (ldD CL CR))] ∧ LsB ls ∧ K (.tup [li (ls.map (wnum (lcD ls))), .int (lcD ls : Nat)]) m
theorem ok_wwts (T : Txt G C_Ratio C_Load C_Book C_OutOfBounds) {f : Addr} {fd : FuncData} (F : L2.Fun G.K "_whole_weights" "_whole_weights" s__whole_weights f fd) (b : L2.Binds G.K fd ["loads"] []) : Fnx G 1 f 1 (S_wwts C_Load C_Ratio) [] := by
  refine fnx_of F sc__whole_weights rfl b .nil rfl (fun cdv A outer s H FF hr tk => ⟨_, (pss_cons (ps_set (i := 1) sc__whole_weights.nd rfl (Or.inr rfl) pe_int) (pss_cons (ps_for (passes_of rfl) rfl (pi_seq (pe_var (i := 0) rfl (Or.inl rfl) nd_loads.1 nd_loads.2)) (pg_name (i := 2) sc__whole_weights.nd rfl (Or.inl rfl)) (pss_one (ps_set (i := 1) sc__whole_weights.nd rfl (Or.inr rfl) (pe_cf cs_lcm rfl T.mg_lcm (pa_cons (pe_var (i := 1) rfl (Or.inr (Or.inl rfl)) nd_over.1 nd_over.2) (pa_cons (pe_fld (pe_fld (pe_var (i := 2) rfl (Or.inl rfl) nd_entry.1 nd_entry.2) rfl) rfl) pa_nil)))))) (pss_one (ps_ret (pe_tup (pa_cons (pe_lc (own := [("entry", 2)]) (g := (gName 2)) (tt := tYes) rfl sc__whole_weights.nd (pi_seqK (KK := G.K) (by rfl) (pe_var (i := 0) rfl (Or.inl rfl) nd_loads.1 nd_loads.2)) (blkOk_by (N := N__whole_weights) (sc := (defScope s__whole_weights)) (by decide +kernel)) (fun _ _ _ _ _ => (pg_name (i := 2) sc__whole_weights.nd rfl (Or.inl rfl))) (fun _ _ _ _ _ => pts_nil) (fun _ _ _ _ _ => (pe_bin (o := oMul G _ wNo) (os_mul (by exact hr) takes0N) (pe_fldK (KK := G.K) (by rfl) (pe_fldK (KK := G.K) (by rfl) (pe_var (i := 2) rfl (Or.inl rfl) nd_entry.1 nd_entry.2) rfl) rfl) (pe_bin os_fdiv (pe_var (i := 1) rfl (Or.inr (Or.inl rfl)) nd_over.1 nd_over.2) (pe_fldK (KK := G.K) (by rfl) (pe_fldK (KK := G.K) (by rfl) (pe_var (i := 2) rfl (Or.inl rfl) nd_entry.1 nd_entry.2) rfl) rfl))))) (pa_cons (pe_var (i := 1) rfl (Or.inr (Or.inl rfl)) nd_over.1 nd_over.2) pa_nil))))))), ?_⟩)
  rintro ds m K E - ⟨ls, rfl, lb, k⟩
  show Ws _ _ _ [some (.tup (ls.map (ldD C_Load C_Ratio))), none, none] _ _
  try dsimp only [cx_G, cx_K]
  have R := T.R_Ratio
  have LD := T.L_Load
  have ob : ∀ i, Bd 8000 (lcD (ls.take i) : Nat) := fun i => by
    have h1 : lcD (ls.take i) ≤ denP ls := Nat.le_of_dvd (denP_pos ls) (Nat.dvd_trans (lcD_mono (ls.take i) (ls.drop i)) (by rw [List.take_append_drop]; exact lcD_dvd ls))
    have h2 := lb.dp
    unfold Bd at *
    omega
  walk_at "gn_1"
  refine ws_seqI (we_var (i := 0) rfl ⟨_, fun i r' m' => m' = m ∧ ∃ o, r' = [some (.tup (ls.map (ldD C_Load C_Ratio))), some (.int (lcD (ls.take i) : Nat)), o], .tup, ⟨rfl, _, by rw [List.take_zero]; rfl⟩, ?_, ?_⟩)
  · rintro i y r' m' hy ⟨rfl, o, rfl⟩
    rw [List.getElem?_map] at hy
    obtain ⟨a, ha, rfl⟩ := Option.map_eq_some_iff.mp hy
    have q := lb.qb a (List.mem_of_getElem? ha)
    walk_at "gn_1"
    refine wc_lcm ((ob i).mono (by decide)) (q.b.mono (by decide)) ?_
    rw [Int.natAbs_natCast, Int.natAbs_natCast]
    walk_at "gn_1"
    exact ⟨_, by rw [take_succ' ha, lcD_snoc]; rfl⟩
  · rintro r' m' ⟨rfl, o, rfl⟩
    rw [List.length_map, List.take_length]
    have ob0 := ob ls.length
    rw [List.take_length] at ob0
    walk_at "gn_1"
    refine we_lcs (α := Ld) (ldD C_Load C_Ratio) (fun a => .int (wnum (lcD ls) a)) (gk_name rfl) (wi_seq (we_var (i := 0) rfl ⟨[], _, .tup, ls, rfl, LcS.mk (Nat.ble_eq_true_of_le (by have := lb.len; omega)) (fun a ha q => wg_name ?_) ?_⟩))
    · have qb := lb.qb a ha
      have dp := a.wt.den_pos
      walk_at "gn_1"
      · exact qb.b.divX (by omega) (by decide)
      · rw [Int.fdiv_eq_ediv_of_nonneg _ (by omega)]
        refine qb.t.mulX ((show Bd 8000 (((lcD ls : Nat) : Int) / ((a.wt.den : Nat) : Int)) from ?_)) (by decide)
        have h1 : ((lcD ls : Nat) : Int) / ((a.wt.den : Nat) : Int) ≤ (lcD ls : Nat) := Int.ediv_le_self _ (by omega)
        have h0 : 0 ≤ ((lcD ls : Nat) : Int) / ((a.wt.den : Nat) : Int) := Int.ediv_nonneg (by omega) (by omega)
        unfold Bd at *
        omega
      · rw [Int.fdiv_eq_ediv_of_nonneg _ (by omega)]
        exact ⟨rfl, rfl⟩
    · walk_at "gn_1"
      have e : D.lst (ls.map fun a => D.int (wnum (lcD ls) a)) = li (ls.map (wnum (lcD ls))) := by rw [li, List.map_map]; rfl
      rw [e]
      exact k
theorem use_wwts {CL CR : Addr} {ls : List Ld} {m : Mu} {K : KT} {E : Ex → Mu → Prop} (h : LsB ls) (k : K (.tup [li (ls.map (wnum (lcD ls))), .int (lcD ls : Nat)]) m) : S_wwts CL CR [.tup (ls.map (ldD CL CR))] m K E := ⟨ls, rfl, h, k⟩
def S_energy (CB CL CR : Addr) : SpecD := fun ds m K _ => ∃ w ls y, ds = [bkD CB CL CR w ls, li y] ∧ y.length = w ∧ BkOk w ls ∧ LsB ls ∧ (∀ t ∈ y, Bd 1000 t) ∧ K (rq CR (enQ ls y)) m
theorem ok_energy (T : Txt G C_Ratio C_Load C_Book C_OutOfBounds) (k_Ratio : Mak G 1 "Ratio" C_Ratio 3 (S_init C_Ratio) []) (c_row_times : Cal G 1 "row_times" 2 S_rtimes []) (c__whole_weights : Cal G 1 "_whole_weights" 1 (S_wwts C_Load C_Ratio) []) {f : Addr} {fd : FuncData} (F : L2.Fun G.K "energy" "Book.energy" s_Book_energy f fd) (b : L2.Binds G.K fd ["self", "direction"] []) : Fnx G 3 f 2 (S_energy C_Book C_Load C_Ratio) [] := by
  refine fnx_of F sc_Book_energy rfl b .nil rfl (fun cdv A outer s H FF hr tk => ⟨_, (pss_cons (ps_if (pt_cm (os_neF hr tk) (pe_cb cs_len rfl T.n_len bt_len (pa_cons (pe_var (i := 1) rfl (Or.inl rfl) nd_direction.1 nd_direction.2) pa_nil)) (pe_fld (pe_var (i := 0) rfl (Or.inl rfl) nd_self.1 nd_self.2) rfl) (nomark _)) (pss_one ps_never) pss_nil) (pss_cons (ps_asg (pe_cl c__whole_weights hr (by decide) tk rfl (pa_cons (pe_fld (pe_var (i := 0) rfl (Or.inl rfl) nd_self.1 nd_self.2) rfl) pa_nil)) (pg_tup rfl (pgs_cons (pg_name (i := 2) sc_Book_energy.nd rfl (Or.inl rfl)) (pgs_cons (pg_name (i := 3) sc_Book_energy.nd rfl (Or.inl rfl)) pgs_nil)))) (pss_cons (ps_set (i := 4) sc_Book_energy.nd rfl (Or.inl rfl) pe_int) (pss_cons (ps_for (passes_of rfl) rfl (pi_zipK (KK := G.K) (by rfl) rfl T.n_zip (pa_cons (pe_fld (pe_var (i := 0) rfl (Or.inl rfl) nd_self.1 nd_self.2) rfl) (pa_cons (pe_var (i := 2) rfl (Or.inl rfl) nd_weights.1 nd_weights.2) pa_nil))) (pg_tup rfl (pgs_cons (pg_name (i := 5) sc_Book_energy.nd rfl (Or.inl rfl)) (pgs_cons (pg_name (i := 6) sc_Book_energy.nd rfl (Or.inl rfl)) pgs_nil))) (pss_one (ps_set (i := 4) sc_Book_energy.nd rfl (Or.inl rfl) (pe_bin (os_add hr tk) (pe_var (i := 4) rfl (Or.inl rfl) nd_total.1 nd_total.2) (pe_bin (os_mul hr tk) (pe_var (i := 6) rfl (Or.inl rfl) nd_weight.1 nd_weight.2) (pe_bin os_sq (pe_cl c_row_times hr (by decide) tk rfl (pa_cons (pe_fld (pe_var (i := 5) rfl (Or.inl rfl) nd_entry.1 nd_entry.2) rfl) (pa_cons (pe_var (i := 1) rfl (Or.inl rfl) nd_direction.1 nd_direction.2) pa_nil))) pe_int)))))) (pss_one (ps_ret (pe_mak k_Ratio hr (by decide) tk rfl (pa_cons (pe_var (i := 4) rfl (Or.inl rfl) nd_total.1 nd_total.2) (pa_cons (pe_var (i := 3) rfl (Or.inl rfl) nd_over.1 nd_over.2) pa_nil))))))))), ?_⟩)
  rintro ds m K E - ⟨w, ls, y, rfl, hy, ok, lb, yb, k⟩
  show Ws _ _ _ [some (bkD C_Book C_Load C_Ratio w ls), some (li y), none, none, none, none, none] _ _
  try dsimp only [cx_G, cx_K]
  have R := T.R_Ratio
  have LD := T.L_Load
  have BK := T.B_Book
  walk_at "gn_1"
  refine ws_if ?_
  walk_at "gn_1"
  · exfalso
    have h := ‹¬ _›
    try rw [List.length_map] at h
    omega
  refine use_wwts lb ?_
  walk_at "gn_1"
  refine ws_forI (wi_zipM ?_)
  walk_at "gn_1"
  have ob0 : Bd 8000 (lcD ls : Nat) := by
    have h1 := lcD_le ls
    have h2 := lb.dp
    unfold Bd at *
    omega
  let RR : Int → Option D → Option D → Rho := fun t o5 o6 => [some (bkD C_Book C_Load C_Ratio w ls), some (li y), some (li (ls.map (wnum (lcD ls)))), some (.int (lcD ls : Nat)), some (.int t), o5, o6]
  refine ⟨_, _, [], [], Ld, Int, ls, ls.map (wnum (lcD ls)), ldD C_Load C_Ratio, D.int, rfl, .tup, .lst, fun i r' m' => m' = m ∧ ∃ o5 o6, r' = RR (enT (lcD ls) (ls.take i) y) o5 o6, ⟨rfl, _, _, by rw [List.take_zero]; rfl⟩, fun _ _ _ _ => Sub.nil, ?_, ?_⟩
  · rintro i x r' m' hx ⟨rfl, o5, o6, rfl⟩
    rw [zip_map_self, List.map_map, List.getElem?_map] at hx
    obtain ⟨a, ha, rfl⟩ := Option.map_eq_some_iff.mp hx
    have hm := List.mem_of_getElem? ha
    have ao := ok.ok a hm
    have nb : ∀ z ∈ a.nums, Bd 20 z := fun z hz => by
      have := ao.nb z hz
      unfold Bd
      omega
    have n2 := ao.n2
    have db : Bd (20 + 1000 + a.nums.length) (dot a.nums y) := dot_bd nb yb
    have db1 := db.mono (show _ ≤ 1100 by omega)
    have qb := lb.qb a hm
    have wb : Bd 10000 (wnum (lcD ls) a) := by
      have h0 : 0 ≤ ((lcD ls : Nat) : Int) / ((a.wt.den : Nat) : Int) := Int.ediv_nonneg (by omega) (by omega)
      have h1 : ((lcD ls : Nat) : Int) / ((a.wt.den : Nat) : Int) ≤ (lcD ls : Nat) := Int.ediv_le_self _ (by omega)
      have h2 : Bd 8000 (((lcD ls : Nat) : Int) / ((a.wt.den : Nat) : Int)) := by
        unfold Bd at *
        omega
      exact (qb.t.mul h2).mono (by decide)
    show Wg _ _ _ (.tup [ldD C_Load C_Ratio a, .int (wnum (lcD ls) a)]) _ _ _
    walk_at "gn_1"
    refine use_rtimes .tup .lst (by omega) nb yb ?_
    walk_at "gn_1"
    refine w2_sq (db1.mono (by decide)) ?_
    walk_at "gn_1"
    · exact wb.mulX (db1.mul db1) (by decide)
    · refine ⟨_, _, by rw [take_succ' ha, enT_snoc]; rfl⟩
  · rintro r' m' ⟨rfl, o5, o6, rfl⟩
    have el : (List.map (fun p => D.tup [ldD C_Load C_Ratio p.1, D.int p.2]) (ls.zip (ls.map (wnum (lcD ls))))).length = ls.length := by rw [zip_map_self, List.map_map, List.length_map]
    rw [el, List.take_length]
    have op := lcD_pos ls
    have e := enT_dv op (y := y) (ls := ls) fun a ha => lcD_mem ha
    walk_at "gn_1"
    · omega
    · exact ob0
    · rw [e]
      exact k
end
end K22
set_option Elab.async false
set_option linter.all false
set_option maxRecDepth 100000
/-! MCd: contents, primitive rows; loads put together. -/
namespace DL
open PySem PySem.Spec L2
open PyProof.Rows hiding St
def gcL (l : List Int) : Nat := gA 0 l
def leadL : List Int → Int
  | [] => 0
  | x :: l => if x = 0 then leadL l else x
def conL (l : List Int) : Int := if leadL l < 0 then -(gcL l : Int) else (gcL l : Int)
def prL (l : List Int) : List Int := l.map fun x => x / conL l
theorem gA_zero : ∀ {l : List Int} {d : Nat}, gA d l = 0 ↔ d = 0 ∧ ∀ x ∈ l, x = 0
  | [], d => by simp [gA_nil]
  | x :: l, d => by
    rw [gA_cons, gA_zero]
    constructor
    · rintro ⟨h1, h2⟩
      have h3 := Nat.gcd_eq_zero_iff.mp h1
      refine ⟨h3.1, fun y hy => ?_⟩
      rcases List.mem_cons.mp hy with rfl | hy
      · omega
      · exact h2 y hy
    · rintro ⟨h1, h2⟩
      have := h2 x List.mem_cons_self
      subst this
      exact ⟨by rw [h1]; rfl, fun y hy => h2 y (List.mem_cons_of_mem _ hy)⟩
theorem gcL_zero {l : List Int} : gcL l = 0 ↔ ∀ x ∈ l, x = 0 := by
  unfold gcL
  rw [gA_zero]
  exact ⟨fun h => h.2, fun h => ⟨rfl, h⟩⟩
theorem conL_zero {l : List Int} : conL l = 0 ↔ ∀ x ∈ l, x = 0 := by
  rw [← gcL_zero]
  unfold conL
  split <;> omega
theorem conL_dvd {l : List Int} {x : Int} (h : x ∈ l) : conL l ∣ x := by
  have q := (gA_dvd (xs := l) (d := 0)).2 x h
  have q2 : (gcL l : Int) ∣ x := Int.ofNat_dvd_left.mpr q
  unfold conL
  split
  · exact Int.neg_dvd.mpr q2
  · exact q2
theorem leadL_mem : ∀ {l : List Int}, leadL l ≠ 0 → leadL l ∈ l
  | [], h => absurd rfl h
  | x :: l, h => by
    unfold leadL at *
    split at h
    · rename_i e
      rw [if_pos e]
      exact List.mem_cons_of_mem _ (leadL_mem h)
    · rename_i e
      rw [if_neg e]
      exact List.mem_cons_self
theorem leadL_zero : ∀ {l : List Int}, leadL l = 0 → ∀ x ∈ l, x = 0
  | [], _, x, h => nomatch h
  | y :: l, h, x, hx => by
    unfold leadL at h
    split at h
    · rename_i e
      rcases List.mem_cons.mp hx with rfl | hx
      · exact e
      · exact leadL_zero h x hx
    · rename_i e
      exact absurd h e
theorem prL_mul {l : List Int} : (prL l).map (fun x => conL l * x) = l := by
  unfold prL
  rw [List.map_map]
  refine (List.map_congr_left fun x hx => ?_).trans (List.map_id l)
  exact Int.mul_ediv_cancel' (conL_dvd hx)
theorem conL_bd {l : List Int} (h : ∀ x ∈ l, -9999 ≤ x ∧ x ≤ 9999) : -9999 ≤ conL l ∧ conL l ≤ 9999 := by
  by_cases z : conL l = 0
  · omega
  · have hl : leadL l ≠ 0 := fun e => z (conL_zero.mpr (leadL_zero e))
    have hm := leadL_mem hl
    have hb := h _ hm
    have hd := conL_dvd hm
    have := Int.natAbs_dvd_natAbs.mpr hd
    have := Nat.le_of_dvd (by omega) this
    omega
/-! ### sizes -/
def bt (x : Rat) : Nat := (max x.num.natAbs x.den).log2 + 1
theorem bt_qb (x : Rat) : Qb (bt x) x := by
  have d := x.den_pos
  have h : max x.num.natAbs x.den < 2 ^ bt x := (Nat.log2_lt (by omega)).mp (by unfold bt; omega)
  refine ⟨?_, ?_⟩ <;> unfold Bd
  · omega
  · rw [Int.natAbs_natCast]
    omega
theorem bt_le {x : Rat} {n : Nat} (h : Qb n x) : bt x ≤ n := by
  have d := x.den_pos
  have h1 := h.t
  have h2 := h.b
  unfold Bd at h1 h2
  rw [Int.natAbs_natCast] at h2
  have : (max x.num.natAbs x.den).log2 < n := (Nat.log2_lt (by omega)).mpr (by omega)
  unfold bt
  omega
def Phi (ls : List Ld) : Nat := (ls.map fun a => bt a.wt + 40).sum
theorem Phi_cons (a : Ld) (ls : List Ld) : Phi (a :: ls) = bt a.wt + 40 + Phi ls := by simp [Phi]
theorem Phi_app (ls ms : List Ld) : Phi (ls ++ ms) = Phi ls + Phi ms := by simp [Phi]
theorem Phi_mem {ls : List Ld} {a : Ld} (h : a ∈ ls) : bt a.wt + 40 ≤ Phi ls := by
  obtain ⟨xs, ys, rfl⟩ := List.append_of_mem h
  rw [Phi_app, Phi_cons]
  omega
theorem denP_Phi : ∀ ls : List Ld, denP ls < 2 ^ (Phi ls + 1)
  | [] => by decide
  | a :: ls => by
    have ih := denP_Phi ls
    have q := (bt_qb a.wt).b
    unfold Bd at q
    rw [Int.natAbs_natCast] at q
    rw [show a :: ls = [a] ++ ls from rfl, denP_app, Phi_app]
    have e : denP [a] = a.wt.den := by simp [denP]
    have e2 : Phi [a] = bt a.wt + 40 := by simp [Phi]
    rw [e, e2]
    refine Nat.lt_of_lt_of_le (Nat.mul_lt_mul'' q ih) ?_
    rw [← Nat.pow_add]
    exact Nat.pow_le_pow_right (by decide) (by omega)
end DL
set_option Elab.async false
set_option linter.all false
set_option maxRecDepth 100000
set_option maxHeartbeats 4000000
namespace K22
open PySem PySem.Spec L2 DL
open PyProof.Rows hiding St
open SX (S)
/-! one step, by the goal's head -/

/-! Ratio and Span by numbers: their promises used -/

/-! comprehensions, sums, lists of others -/

/-! books -/

section
variable {G : Gx} {C_Ratio C_Load C_Book C_OutOfBounds : Addr}
def S_split : SpecD := fun ds m K _ => ∃ l, ds = [tup l] ∧ l.length ≤ 100 ∧ (∀ x ∈ l, Bd 20 x) ∧ K (.tup [.int (conL l), tup (prL l)]) m
theorem use_split {l : List Int} {m : Mu} {K : KT} {E : Ex → Mu → Prop} (h1 : l.length ≤ 100) (h2 : ∀ x ∈ l, Bd 20 x) (k : K (.tup [.int (conL l), tup (prL l)]) m) : S_split [tup l] m K E := ⟨l, rfl, h1, h2, k⟩
theorem lead_take {l : List Int} {i : Nat} {x : Int} (h : l[i]? = some x) : leadL (l.take (i + 1)) = if leadL (l.take i) = 0 then x else leadL (l.take i) := by
  rw [take_succ' h]
  generalize l.take i = p
  induction p with
  | nil =>
    simp only [List.nil_append, leadL]
    split <;> simp_all
  | cons y p ih =>
    by_cases e : y = 0
    · have h1 : leadL (y :: p) = leadL p := if_pos e
      have h2 : leadL (y :: (p ++ [x])) = leadL (p ++ [x]) := if_pos e
      rw [List.cons_append, h2, h1]
      exact ih
    · have h1 : leadL (y :: p) = y := if_neg e
      have h2 : leadL (y :: (p ++ [x])) = y := if_neg e
      rw [List.cons_append, h2, h1, if_neg e]
local macro_rules | `(tactic| walk_at "fld_1") => `(tactic| (with_reducible refine we_fldF ?_))
local macro_rules | `(tactic| walk_at "useWe_1") => `(tactic| first
  | ((with_reducible apply we_lcs); case gk => first | exact gk_name rfl | exact gk_tup (gks_cons (gk_name rfl) (gks_cons (gk_name rfl) gks_nil)))
  | (with_reducible refine we_slPre ?_) | (with_reducible refine we_slSuf ?_) | (with_reducible refine we_app ?_) | (with_reducible refine we_mt ?_) | (with_reducible refine we_grd ?_) | (with_reducible refine we_ratQ ?_) | (with_reducible refine we_ratQ1 ?_) | fail)
local macro_rules | `(tactic| walk_at "sWe_1") => `(tactic| first
  | ((with_reducible refine we_var (d := ?d) ?hv ?hk); case hv => rfl)
  | (with_reducible first
    | refine we_cint ?_ | refine we_2 ?_ | refine we_cl0 ?_ | refine we_tup ?_ | refine we_1 ?_ | refine we_c2 ?_ | refine we_cbl ?_ | refine we_cnon ?_ | refine we_cty ?_ | refine we_cref ?_
    | refine we_op ?_ | refine we_andV ?_ | refine we_orV ?_ | refine we_notV ?_ | refine we_3 ?_ | refine we_ifx ?_ | refine we_cstr ?_ | refine we_clH ?_)
  | walk_at "fld_1"
  | walk_at "useWe_1")
local macro_rules | `(tactic| walk_at "useW2_1") => `(tactic| first
  | (with_reducible refine w2_eqRN ?_) | (with_reducible refine w2_eqLN ?_) | (with_reducible refine w2_eqLli ?_) | (with_reducible refine w2_eqLi ?_)
  | (with_reducible refine w2_ixT ⟨ix_map0 ?_, ?_⟩) | (with_reducible refine w2_ixL ⟨ix_map0 ?_, ?_⟩) | (with_reducible refine w2_ixT ⟨ix_map ?_, ?_⟩) | (with_reducible refine w2_ixL ⟨ix_map ?_, ?_⟩)
  | (with_reducible refine w2_addO (by assumption) (by decide) .fixed .fixed ?_) | (with_reducible refine w2_subO (by assumption) (by decide) .fixed .fixed ?_) | (with_reducible refine w2_mulO (by assumption) (by decide) .fixed .fixed ?_) | (with_reducible refine w1_negO (by assumption) (by decide) .fixed ?_)
  | (with_reducible refine w2_catL .lst .lst ?_ ?_) | fail)
local macro_rules | `(tactic| walk_at "sW2_1") => `(tactic| first
  | (with_reducible first
    | refine w2_add ?_ | refine w2_sub ?_ | refine w2_mul ⟨?_, ?_⟩ | refine w2_fdiv ⟨?_, ?_⟩ | refine w2_mod ⟨?_, ?_⟩ | refine w2_pow ⟨?_, ?_⟩ | refine w2_eqI ?_ | refine w2_neI ?_ | refine w2_lt ?_ | refine w2_le ?_ | refine w2_gt ?_ | refine w2_ge ?_ | refine w2_eqFI ?_ | refine w2_neFI ?_)
  | ((with_reducible refine w2_ixT (d := ?d) ⟨?hv, ?hk⟩); case hv => rfl)
  | ((with_reducible refine w2_ixL (d := ?d) ⟨?hv, ?hk⟩); case hv => rfl)
  | ((with_reducible refine w2_ixM (d := ?d) .head ⟨?hv, ?hk⟩); case hv => rfl)
  | (with_reducible first
    | refine w2_eqIH ?_ | refine w2_neIH ?_ | refine w2_mulH ⟨?_, ?_⟩ | refine w2_addH ?_ | refine w2_subH ?_ | refine w2_isN ?_ | refine w2_notN ?_ | refine w2_isB ?_ | refine w2_notB ?_)
  | walk_at "useW2_1")
local macro_rules | `(tactic| walk_at "sWa_1") => `(tactic| with_reducible first | refine wa_nil ?_ | refine wa_cons ?_)
local macro_rules | `(tactic| walk_at "useWs_1") => `(tactic| first | (with_reducible refine ws_rs0 ?_) | (with_reducible refine ws_rs ?_) | fail)
local macro_rules | `(tactic| walk_at "sWs_1") => `(tactic| first
  | (with_reducible first | refine ws_seq ?_ | refine ws_ret ?_ | refine ws_asg ?_ | refine ws_next ?_ | refine ws_drop ?_ | refine ws_par ?_ | refine ws_par3 ?_ | refine ws_fldN ?_ | refine ws_brk ?_ | refine ws_cont ?_)
  | walk_at "useWs_1")
local macro_rules | `(tactic| walk_at "sWt_1") => `(tactic| with_reducible first | refine wt_test ?_ | refine wt_tr ?_ | refine wt_and ?_ | refine wt_or ?_ | refine wt_not ?_)
local macro_rules | `(tactic| walk_at "useWc_1") => `(tactic| first
  | (with_reducible refine wc_len (SeqM.len (by assumption)) ?_) | (with_reducible refine wc_sumG ?_) | (with_reducible refine wc_sumI ?_) | (with_reducible refine wc_tupleL .tup ?_) | (with_reducible refine wc_tupleL .lst ?_) | (with_reducible refine wc_listF .tup ?_) | (with_reducible refine wc_listF .lst ?_) | fail)
local macro_rules | `(tactic| walk_at "sWc_1") => `(tactic| first
  | (with_reducible first | refine wc_int ?_ | refine wc_abs ?_ | refine wc_min ?_ | refine wc_gcd ?_ | refine wc_isiT .int kit_ii ?_ | refine wc_isiT .int kit_ib ?_ | refine wc_len .lst ?_ | refine wc_len .tup ?_ | refine wc_strI ?_ ?_)
  | walk_at "useWc_1")
local macro_rules | `(tactic| walk_at "sWi_1") => `(tactic| with_reducible first | refine wi_seq ?_ | refine wi_rng1S ?_ | refine wi_rng2 ?_ | refine wi_zipM ?_)
local macro_rules | `(tactic| walk_at "sWg_1") => `(tactic| with_reducible first | refine wg_name ?_ | refine wg_subM ?_ | refine wg_tup rfl ?_)
local macro_rules | `(tactic| walk_at "sW1_1") => `(tactic| first | (with_reducible refine w1_neg ?_) | walk_at "useW2_1")
local macro_rules | `(tactic| walk_at "sWgs_1") => `(tactic| with_reducible first | refine wgs_cons ?_ | refine wgs_nil ?_)
local macro_rules | `(tactic| walk_at "sS_1") => `(tactic| first | (with_reducible refine SlA.mk ?_ ?_) | (with_reducible refine RngA.mk ?_ ?_) | (with_reducible refine LcS.mk ?_ (fun a ha q => ?_) ?_) | (with_reducible exact LcL.mk rfl rfl) | fail)
local macro_rules | `(tactic| walk_at "sq_1") => `(tactic| first | assumption | exact SeqM.cons (by assumption) | exact SeqM.cons (SeqM.cons (by assumption)))
local macro_rules | `(tactic| walk_at "lst_1") => `(tactic| first
  | (with_reducible refine ⟨_, _, rfl, .head, ?_⟩) | (with_reducible refine ⟨_, _, _, rfl, .head, ?_, .head, ?_⟩) | (with_reducible refine ⟨_, _, .tup, ?_⟩) | (with_reducible refine ⟨_, _, .lst, ?_⟩) | (with_reducible refine ⟨_, _, (by walk_at "sq_1"), ?_⟩)
  | (with_reducible refine ⟨_, _, _, _, _, _, _, _, _, _, rfl, .tup, .tup, ?_⟩) | (with_reducible refine ⟨_, _, _, _, _, _, _, _, _, _, rfl, .tup, .lst, ?_⟩) | (with_reducible refine ⟨_, _, _, _, _, _, _, _, _, _, rfl, .tup, (by walk_at "sq_1"), ?_⟩) | (with_reducible refine ⟨_, _, _, _, _, _, _, _, _, _, rfl, .lst, .tup, ?_⟩) | (with_reducible refine ⟨_, _, _, _, _, _, _, _, _, _, rfl, .lst, .lst, ?_⟩) | (with_reducible refine ⟨_, _, _, _, _, _, _, _, _, _, rfl, .lst, (by walk_at "sq_1"), ?_⟩) | (with_reducible refine ⟨_, _, _, _, _, _, _, _, _, _, rfl, (by walk_at "sq_1"), .tup, ?_⟩) | (with_reducible refine ⟨_, _, _, _, _, _, _, _, _, _, rfl, (by walk_at "sq_1"), .lst, ?_⟩) | (with_reducible refine ⟨_, _, _, _, _, _, _, _, _, _, rfl, (by walk_at "sq_1"), (by walk_at "sq_1"), ?_⟩) | fail)
local macro_rules | `(tactic| walk_at "bks_1") => `(tactic| first
  | (with_reducible refine fld_label (by assumption) ?_) | (with_reducible refine fld_weight (by assumption) ?_) | (with_reducible refine fld_numbers (by assumption) ?_)
  | (with_reducible refine fld_bwidth (by assumption) ?_) | (with_reducible refine fld_loads (by assumption) ?_) | (with_reducible refine fld_places (by assumption) ?_))
local macro_rules | `(tactic| walk_at "use_1") => `(tactic| first | walk_at "lst_1" | walk_at "bks_1" | fail)
local macro_rules | `(tactic| walk_at "sX_1") => `(tactic| first
  | (with_reducible refine ⟨_, rfl, ?_⟩)
  | (with_reducible refine fld_top (by assumption) ?_) | (with_reducible refine fld_bottom (by assumption) ?_)
  | (with_reducible refine ⟨_, .bl, ?_⟩)
  | ((with_reducible refine ⟨?h, ?_⟩); case h => rfl)
  | (with_reducible refine ⟨_, _, rfl, ?_⟩)
  | (with_reducible refine ⟨_, _, _, rfl, ?_⟩)
  | walk_at "use_1"
  | (with_reducible refine setN_top (by assumption) ?_) | (with_reducible refine setN_bottom (by assumption) ?_)
  | ((with_reducible refine ⟨_, _, _, ?j, _, rfl, rfl, .head, ?h, .head, ?_⟩); case h => rfl)
  | fail)
local macro_rules | `(tactic| walk_at "st_1") => `(tactic| first
  | ((with_reducible show We _ _ _ _ _ _); walk_at "sWe_1")
  | ((with_reducible show W2 _ _ _ _ _ _ _ _); walk_at "sW2_1")
  | ((with_reducible show Wa _ _ _ _ _ _); walk_at "sWa_1")
  | ((with_reducible show Ws _ _ _ _ _ _); walk_at "sWs_1")
  | ((with_reducible show Wt _ _ _ _ _ _); walk_at "sWt_1")
  | ((with_reducible show Wc _ _ _ _ _ _ _); walk_at "sWc_1")
  | ((with_reducible show Wi _ _ _ _ _ _); walk_at "sWi_1")
  | ((with_reducible show Wg _ _ _ _ _ _ _); walk_at "sWg_1")
  | ((with_reducible show W1 _ _ _ _ _ _ _); walk_at "sW1_1")
  | ((with_reducible show Wgs _ _ _ _ _ _ _); walk_at "sWgs_1")
  | walk_at "sS_1" | walk_at "sX_1" | fail)
local macro_rules | `(tactic| walk_at "br_1") => `(tactic| ((with_reducible refine ⟨fun hb => ?_, fun hb => ?_⟩) <;> (try simp only [decide_eq_true_eq, decide_eq_false_iff_not, Bool.not_eq_true', Bool.not_eq_false', Bool.and_eq_true, Bool.or_eq_true, reduceCtorEq, List.length_map, Bool.not_true, Bool.not_false, DL.isNon, not_true_eq_false, not_false_eq_true, Classical.not_not, List.all_cons, List.all_nil, id_eq, Bool.and_self, Bool.true_and, decide_true, decide_false] at hb)))
local macro_rules | `(tactic| walk_at "gn_1") => `(tactic| repeat' (first | walk_at "st_1" | walk_at "br_1" | fail))
local macro_rules | `(tactic| walk_at "wif_1") => `(tactic| (with_reducible refine ws_if ?_))
local macro_rules | `(tactic| walk_at "go_1") => `(tactic| repeat' (first | walk_at "st_1" | walk_at "wif_1" | walk_at "br_1" | fail))
theorem ok_split (T : Txt G C_Ratio C_Load C_Book C_OutOfBounds) {f : Addr} {fd : FuncData} (F : L2.Fun G.K "_split" "_split" s__split f fd) (b : L2.Binds G.K fd ["numbers"] []) : Fnx G 1 f 1 S_split [] := by
  refine fnx_of F sc__split rfl b .nil rfl (fun cdv A outer s H FF hr tk => ⟨_, (pss_cons (ps_set (i := 1) sc__split.nd rfl (Or.inr rfl) pe_int) (pss_cons (ps_set (i := 2) sc__split.nd rfl (Or.inl rfl) pe_int) (pss_cons (ps_for (passes_of rfl) rfl (pi_seq (pe_var (i := 0) rfl (Or.inl rfl) nd_numbers.1 nd_numbers.2)) (pg_name (i := 3) sc__split.nd rfl (Or.inl rfl)) (pss_cons (ps_set (i := 1) sc__split.nd rfl (Or.inr rfl) (pe_cf cs_gcd rfl T.mg_gcd (pa_cons (pe_var (i := 1) rfl (Or.inr (Or.inl rfl)) nd_content.1 nd_content.2) (pa_cons (pe_var (i := 3) rfl (Or.inl rfl) nd_number.1 nd_number.2) pa_nil)))) (pss_one (ps_if (pt_cm (os_eqF hr tk) (pe_var (i := 2) rfl (Or.inl rfl) nd_lead.1 nd_lead.2) pe_int (nomark _)) (pss_one (ps_set (i := 2) sc__split.nd rfl (Or.inl rfl) (pe_var (i := 3) rfl (Or.inl rfl) nd_number.1 nd_number.2))) pss_nil)))) (pss_cons (ps_if (pt_cm (os_eqF hr tk) (pe_var (i := 1) rfl (Or.inr (Or.inl rfl)) nd_content.1 nd_content.2) pe_int (nomark _)) (pss_one (ps_ret (pe_tup (pa_cons pe_int (pa_cons (pe_ct (oc := cTupleF G) cs_tuple rfl T.n_tuple bt_tuple (pa_cons (pe_var (i := 0) rfl (Or.inl rfl) nd_numbers.1 nd_numbers.2) pa_nil)) pa_nil))))) pss_nil) (pss_cons (ps_if (pt_cm os_lt (pe_var (i := 2) rfl (Or.inl rfl) nd_lead.1 nd_lead.2) pe_int (nomark _)) (pss_one (ps_set (i := 1) sc__split.nd rfl (Or.inr rfl) (pe_una (us_neg hr tk) (pe_var (i := 1) rfl (Or.inr (Or.inl rfl)) nd_content.1 nd_content.2)))) pss_nil) (pss_one (ps_ret (pe_tup (pa_cons (pe_var (i := 1) rfl (Or.inr (Or.inl rfl)) nd_content.1 nd_content.2) (pa_cons (pe_ct (oc := cTupleF G) cs_tuple rfl T.n_tuple bt_tuple (pa_cons (pe_lc (own := [("number", 3)]) (g := (gName 3)) (tt := tYes) rfl sc__split.nd (pi_seqK (KK := G.K) (by rfl) (pe_var (i := 0) rfl (Or.inl rfl) nd_numbers.1 nd_numbers.2)) (blkOk_by (N := N__split) (sc := (defScope s__split)) (by decide +kernel)) (fun _ _ _ _ _ => (pg_name (i := 3) sc__split.nd rfl (Or.inl rfl))) (fun _ _ _ _ _ => pts_nil) (fun _ _ _ _ _ => (pe_bin os_fdiv (pe_var (i := 3) rfl (Or.inl rfl) nd_number.1 nd_number.2) (pe_var (i := 1) rfl (Or.inr (Or.inl rfl)) nd_content.1 nd_content.2)))) pa_nil)) pa_nil)))))))))), ?_⟩)
  rintro ds m K E - ⟨l, rfl, hl, hb, k⟩
  show Ws _ _ _ [some (tup l), none, none, none] _ _
  try dsimp only [cx_G, cx_K]
  walk_at "gn_1"
  let RR : Nat → Int → Option D → Rho := fun c ld o => [some (tup l), some (.int c), some (.int ld), o]
  refine ws_seqI (we_var (i := 0) rfl ⟨_, fun i r' m' => m' = m ∧ ∃ o, r' = RR (gA 0 (l.take i)) (leadL (l.take i)) o, .tup, ⟨rfl, _, by rw [List.take_zero]; rfl⟩, ?_, ?_⟩)
  · rintro i y r' m' hy ⟨rfl, o, rfl⟩
    rw [List.getElem?_map] at hy
    obtain ⟨x, hx, rfl⟩ := Option.map_eq_some_iff.mp hy
    have e1 := lead_take hx
    have e2 : gA 0 (l.take (i + 1)) = (gA 0 (l.take i)).gcd x.natAbs := by
      rw [take_succ' hx, gA_app]
      rfl
    walk_at "go_1"
    all_goals rw [Int.natAbs_natCast]
    · rw [e1, if_pos ‹_›, e2]
      exact ⟨_, rfl⟩
    · rw [e1, if_neg ‹_›, e2]
      exact ⟨_, rfl⟩
  · rintro r' m' ⟨rfl, o, rfl⟩
    rw [List.length_map, List.take_length]
    have zz : gA 0 l = 0 → K (.tup [.int 0, .tup (l.map D.int)]) m' := fun h => by
      have h0 := gcL_zero.mp h
      have c0 := conL_zero.mpr h0
      have p0 : prL l = l := by
        unfold prL
        rw [c0]
        refine (List.map_congr_left fun x hx => ?_).trans (List.map_id l)
        rw [h0 x hx]
        rfl
      rw [c0, p0] at k
      exact k
    have nz : gA 0 l ≠ 0 → conL l ≠ 0 := fun h e => h (gcL_zero.mpr (conL_zero.mp e))
    have cb : Bd 1000 (conL l) := by
      by_cases z : conL l = 0
      · rw [z]
        exact bd_lit (by decide)
      · have hl : leadL l ≠ 0 := fun e => z (conL_zero.mpr (leadL_zero e))
        have hm := leadL_mem hl
        have hd := Int.natAbs_dvd_natAbs.mpr (conL_dvd hm)
        have h1 := Nat.le_of_dvd (by omega) hd
        have h2 := (hb _ hm).mono (show 20 ≤ 1000 by decide)
        unfold Bd at *
        omega
    have fin : conL l ≠ 0 → .tup (l.map fun x => D.int (x.fdiv (conL l))) = tup (prL l) := fun h => by
      unfold prL tup
      rw [List.map_map]
      congr 1
      refine List.map_congr_left fun x hx => ?_
      show D.int _ = D.int _
      rw [Int.fdiv_eq_ediv_of_dvd (conL_dvd hx)]
    have cn : leadL l < 0 → -((gA 0 l : Nat) : Int) = conL l := fun h => by
      unfold conL
      rw [if_pos h]
      rfl
    have cp : ¬ leadL l < 0 → ((gA 0 l : Nat) : Int) = conL l := fun h => by
      unfold conL
      rw [if_neg h]
      rfl
    walk_at "gn_1"
    refine ws_if ?_
    walk_at "gn_1"
    · exact zz (by omega)
    have cz := nz (by omega)
    refine Ws.cut (fun r' m'' => m'' = m' ∧ r' = [some (tup l), some (.int (conL l)), some (.int (leadL l)), o]) ?_ ?_
    · refine ws_if ?_
      walk_at "gn_1"
      · rw [← cn ‹_›]
        rfl
      · rw [← cp ‹_›]
    · rintro r' m'' ⟨rfl, rfl⟩
      walk_at "gn_1"
      · exact Nat.ble_eq_true_of_le (by omega)
      · exact ⟨cz, (cb.divX cz (by decide)).2⟩
      · rw [fin cz]
        exact k
end
end K22
set_option Elab.async false
set_option linter.all false
set_option maxRecDepth 100000
/-! ME22: loads with parallel rows put together. -/
namespace DL
open PySem PySem.Spec L2
open PyProof.Rows hiding St
structure Ent where
  pr : List Int
  ld : Ld
  c : Int
def mrg (e : Ent) (a : Ld) : Ent := ⟨e.pr, ⟨e.ld.lab, e.ld.wt + a.wt * dv (conL a.nums) e.c ^ 2, e.ld.nums⟩, e.c⟩
def fndE (st : List Ent) (p : List Int) : Option Ent := st.find? fun e => decide (e.pr = p)
def putE (st : List Ent) (e2 : Ent) : List Ent := st.map fun e => if e.pr = e2.pr then e2 else e
def stepC (st : List Ent) (a : Ld) : List Ent :=
  if conL a.nums = 0 then st else
  match fndE st (prL a.nums) with
  | some e => putE st (mrg e a)
  | none => st ++ [⟨prL a.nums, a, conL a.nums⟩]
def condS (ls : List Ld) : List Ent := ls.foldl stepC []
def cond (ls : List Ld) : List Ld := (condS ls).map (·.ld)
theorem condS_snoc (ls : List Ld) (a : Ld) : condS (ls ++ [a]) = stepC (condS ls) a := by simp [condS, List.foldl_append]
/-! ### as a dict -/
def kvE (CL CR : Addr) (st : List Ent) : List (List Key × D) := st.map fun e => (e.pr.map Sum.inl, .tup [ldD CL CR e.ld, .int e.c])
theorem inl_inj {p q : List Int} : (p.map Sum.inl : List Key) = q.map Sum.inl ↔ p = q := by
  constructor
  · intro h
    exact List.map_inj_right (fun a b e => Sum.inl.inj e) |>.mp h
  · rintro rfl
    rfl
theorem kvE_val {CL CR : Addr} (p : List Int) : ∀ st : List Ent, valD (kvE CL CR st) (p.map Sum.inl) = (fndE st p).map fun e => .tup [ldD CL CR e.ld, .int e.c]
  | [] => rfl
  | e :: st => by
    have ih := kvE_val (CL := CL) (CR := CR) p st
    by_cases h : e.pr = p
    · have h2 : (e.pr.map Sum.inl : List Key) = p.map Sum.inl := inl_inj.mpr h
      simp [valD, kvE, fndE, h]
    · have h2 : ¬ (e.pr.map Sum.inl : List Key) = p.map Sum.inl := fun z => h (inl_inj.mp z)
      unfold valD kvE fndE at *
      rw [List.map_cons, List.find?_cons, List.find?_cons, decide_eq_false h, decide_eq_false h2]
      exact ih
theorem kvE_new {CL CR : Addr} {st : List Ent} {e : Ent} (h : fndE st e.pr = none) : putD (kvE CL CR st) (e.pr.map Sum.inl) (.tup [ldD CL CR e.ld, .int e.c]) = kvE CL CR (st ++ [e]) := by
  rw [putD_new _ (by rw [kvE_val, h]; rfl)]
  simp [kvE]
theorem kvE_put {CL CR : Addr} {st : List Ent} {e e2 : Ent} (h : fndE st e2.pr = some e) : putD (kvE CL CR st) (e2.pr.map Sum.inl) (.tup [ldD CL CR e2.ld, .int e2.c]) = kvE CL CR (putE st e2) := by
  unfold putD
  rw [valD_any, kvE_val, h, Option.map_some, Option.isSome_some, if_pos rfl]
  unfold kvE putE
  rw [List.map_map, List.map_map]
  refine List.map_congr_left fun e' _ => ?_
  simp only [Function.comp]
  by_cases q : e'.pr = e2.pr
  · rw [if_pos q, if_pos (inl_inj.mpr q), q]
  · rw [if_neg q, if_neg fun z => q (inl_inj.mp z)]
/-! ### what is kept -/
structure EntOk (w : Nat) (e : Ent) : Prop where
  c : conL e.ld.nums = e.c
  p : prL e.ld.nums = e.pr
  nz : e.c ≠ 0
  ok : LdOk e.ld
  w : e.ld.nums.length = w
structure StOk (w : Nat) (ls : List Ld) (st : List Ent) : Prop where
  ent : ∀ e ∈ st, EntOk w e
  nd : (st.map (·.pr)).Nodup
  lab : (st.map (·.ld.lab)).Sublist (ls.map (·.lab))
  phi : Phi (st.map (·.ld)) ≤ Phi ls
theorem fndE_some {st : List Ent} {p : List Int} {e : Ent} (h : fndE st p = some e) : e ∈ st ∧ e.pr = p := ⟨List.mem_of_find?_eq_some h, of_decide_eq_true (List.find?_some (p := fun e : Ent => decide (e.pr = p)) h)⟩
theorem fndE_none {st : List Ent} {p : List Int} (h : fndE st p = none) : p ∉ st.map (·.pr) := fun z => by
  obtain ⟨e, he, rfl⟩ := List.mem_map.mp z
  have := List.find?_eq_none.mp h e he
  simp at this
theorem putE_split : ∀ {st : List Ent} {e : Ent}, (st.map (·.pr)).Nodup → e ∈ st → ∃ xs ys, st = xs ++ e :: ys ∧ ∀ e2 : Ent, e2.pr = e.pr → putE st e2 = xs ++ e2 :: ys := by
  intro st e nd he
  obtain ⟨xs, ys, rfl⟩ := List.append_of_mem he
  refine ⟨xs, ys, rfl, fun e2 h2 => ?_⟩
  rw [List.map_append, List.map_cons] at nd
  have h1 := List.nodup_append.mp nd
  have hx : ∀ e' ∈ xs, ¬ e'.pr = e2.pr := fun e' h' z => h1.2.2 e'.pr (List.mem_map.mpr ⟨e', h', rfl⟩) e.pr List.mem_cons_self (z.trans h2)
  have hy : ∀ e' ∈ ys, ¬ e'.pr = e2.pr := fun e' h' z => (List.nodup_cons.mp h1.2.1).1 (List.mem_map.mpr ⟨e', h', z.trans h2⟩)
  unfold putE
  rw [List.map_append, List.map_cons, if_pos h2.symm]
  congr 1
  · refine (List.map_congr_left fun e' h' => ?_).trans (List.map_id xs)
    exact if_neg (hx e' h')
  · congr 1
    refine (List.map_congr_left fun e' h' => ?_).trans (List.map_id ys)
    exact if_neg (hy e' h')
theorem nums_mul {w : Nat} {e : Ent} (h : EntOk w e) : e.ld.nums = e.pr.map fun x => e.c * x := by
  have q := prL_mul (l := e.ld.nums)
  rw [h.p, h.c] at q
  exact q.symm
theorem wt_pos {e : Ent} {a : Ld} (h1 : 0 < e.ld.wt) (h2 : 0 < a.wt) : 0 < (mrg e a).ld.wt := by
  show 0 < e.ld.wt + a.wt * dv (conL a.nums) e.c ^ 2
  have h3 : (0 : Rat) ≤ dv (conL a.nums) e.c ^ 2 := by
    generalize dv (conL a.nums) e.c = q
    have e : q ^ 2 = q * q := by grind
    rw [e]
    by_cases hq : 0 ≤ q
    · exact Rat.mul_nonneg hq hq
    · have : 0 ≤ (-q) * (-q) := Rat.mul_nonneg (by grind) (by grind)
      grind
  have h4 : 0 ≤ a.wt * dv (conL a.nums) e.c ^ 2 := Rat.mul_nonneg (by grind) h3
  grind
theorem mrg_ok {w : Nat} {e : Ent} {a : Ld} (h : EntOk w e) (ha : LdOk a) : EntOk w (mrg e a) := ⟨h.c, h.p, h.nz, ⟨h.ok.lab, wt_pos h.ok.wt ha.wt, h.ok.n1, h.ok.n2, h.ok.nb⟩, h.w⟩
theorem mrg_bt {w : Nat} {e : Ent} {a : Ld} (h : EntOk w e) (ha : LdOk a) : Qb 14 (dv (conL a.nums) e.c) ∧ bt (mrg e a).ld.wt + 40 ≤ (bt e.ld.wt + 40) + (bt a.wt + 40) := by
  have b1 := conL_bd ha.nb
  have b2 := conL_bd h.ok.nb
  rw [h.c] at b2
  have q : Qb 14 (dv (conL a.nums) e.c) := qb_of h.nz (by unfold Bd; omega) (by unfold Bd; omega)
  refine ⟨q, ?_⟩
  have e2 : dv (conL a.nums) e.c ^ 2 = dv (conL a.nums) e.c * dv (conL a.nums) e.c := by grind
  have z : Qb (bt e.ld.wt + (bt a.wt + (14 + 14)) + 1) (mrg e a).ld.wt := by
    show Qb _ (e.ld.wt + a.wt * dv (conL a.nums) e.c ^ 2)
    rw [e2]
    exact qb_add (bt_qb _) (qb_mul (bt_qb _) (qb_mul q q))
  have := bt_le z
  omega
theorem stepC_ok {w : Nat} {ls : List Ld} {st : List Ent} {a : Ld} (h : StOk w ls st) (ha : LdOk a) (hw : a.nums.length = w) : StOk w (ls ++ [a]) (stepC st a) := by
  unfold stepC
  by_cases z : conL a.nums = 0
  · rw [if_pos z]
    refine ⟨h.ent, h.nd, ?_, ?_⟩
    · rw [List.map_append]
      exact h.lab.trans (List.sublist_append_left _ _)
    · rw [Phi_app]
      have := h.phi
      omega
  · rw [if_neg z]
    cases hf : fndE st (prL a.nums) with
    | none =>
      show StOk w (ls ++ [a]) (st ++ [⟨prL a.nums, a, conL a.nums⟩])
      refine ⟨fun e he => ?_, ?_, ?_, ?_⟩
      · rcases List.mem_append.mp he with q | q
        · exact h.ent e q
        · rw [List.mem_singleton.mp q]
          exact ⟨rfl, rfl, z, ha, hw⟩
      · rw [List.map_append]
        refine List.nodup_append.mpr ⟨h.nd, by simp, fun x hx y hy => ?_⟩
        rw [List.mem_singleton.mp hy]
        exact fun q => fndE_none hf (by rw [← (show x = prL a.nums from q)]; exact hx)
      · rw [List.map_append, List.map_append]
        exact h.lab.append (List.Sublist.refl _)
      · rw [List.map_append, Phi_app, Phi_app]
        have := h.phi
        have e : Phi (List.map (·.ld) [(⟨prL a.nums, a, conL a.nums⟩ : Ent)]) = Phi [a] := rfl
        omega
    | some e =>
      show StOk w (ls ++ [a]) (putE st (mrg e a))
      obtain ⟨he, hp⟩ := fndE_some hf
      obtain ⟨xs, ys, es, hs⟩ := putE_split h.nd he
      have ep := hs (mrg e a) rfl
      have eo := h.ent e he
      have mb := (mrg_bt eo ha).2
      refine ⟨fun e' he' => ?_, ?_, ?_, ?_⟩
      · rw [ep] at he'
        rcases List.mem_append.mp he' with q | q
        · exact h.ent e' (by rw [es]; exact List.mem_append_left _ q)
        · rcases List.mem_cons.mp q with q | q
          · rw [q]
            exact mrg_ok eo ha
          · exact h.ent e' (by rw [es]; exact List.mem_append_right _ (List.mem_cons_of_mem _ q))
      · have nd := h.nd
        rw [es, List.map_append, List.map_cons] at nd
        rw [ep, List.map_append, List.map_cons]
        exact nd
      · have lb := h.lab
        rw [es, List.map_append, List.map_cons] at lb
        rw [ep, List.map_append, List.map_append, List.map_cons]
        exact lb.trans (List.sublist_append_left _ _)
      · have ph := h.phi
        rw [es] at ph
        rw [ep]
        rw [List.map_append, List.map_cons, Phi_app, Phi_cons] at *
        rw [Phi_app]
        have e1 : Phi [a] = bt a.wt + 40 := by simp [Phi]
        omega
theorem condS_ok {w : Nat} : ∀ {ls : List Ld}, (∀ a ∈ ls, LdOk a ∧ a.nums.length = w) → StOk w ls (condS ls) := by
  intro ls
  have gen : ∀ (ms pre : List Ld) (st : List Ent), StOk w pre st → (∀ a ∈ ms, LdOk a ∧ a.nums.length = w) → StOk w (pre ++ ms) (ms.foldl stepC st) := by
    intro ms
    induction ms with
    | nil =>
      intro pre st h _
      rw [List.append_nil]
      exact h
    | cons a ms ih =>
      intro pre st h hm
      have q := ih (pre ++ [a]) (stepC st a) (stepC_ok h (hm a List.mem_cons_self).1 (hm a List.mem_cons_self).2) fun b hb => hm b (List.mem_cons_of_mem _ hb)
      rw [List.append_assoc] at q
      exact q
  intro h
  exact gen ls [] [] ⟨fun _ h => (nomatch h), List.nodup_nil, List.Sublist.refl _, Nat.le_refl _⟩ h
theorem cond_ok {w : Nat} {ls : List Ld} (h : BkOk w ls) : BkOk w (cond ls) ∧ Phi (cond ls) ≤ Phi ls := by
  have q := condS_ok (w := w) (ls := ls) fun a ha => ⟨h.ok a ha, h.wid a ha⟩
  have lb : ((cond ls).map (·.lab)).Sublist (ls.map (·.lab)) := by
    unfold cond
    rw [List.map_map]
    exact q.lab
  have ll := lb.length_le
  rw [List.length_map, List.length_map] at ll
  refine ⟨⟨h.w1, h.w2, Nat.le_trans ll h.len, fun a ha => ?_, fun a ha => ?_, lb.nodup h.nd⟩, q.phi⟩
  · obtain ⟨e, he, rfl⟩ := List.mem_map.mp ha
    exact (q.ent e he).ok
  · obtain ⟨e, he, rfl⟩ := List.mem_map.mp ha
    exact (q.ent e he).w
/-! ### the energy stays -/
theorem dot_mul {c : Int} : ∀ {p y : List Int}, dot (p.map fun x => c * x) y = c * dot p y
  | [], y => by simp [dot]
  | x :: p, [] => by simp [dot]
  | x :: p, z :: y => by
    have ih := dot_mul (c := c) (p := p) (y := y)
    unfold dot at *
    simp only [List.map_cons, List.zip_cons_cons, List.sum_cons]
    rw [ih]
    grind
theorem dot_zero {l y : List Int} (h : ∀ x ∈ l, x = 0) : dot l y = 0 := by
  have e : l = l.map fun x => 0 * x := by
    refine ((List.map_congr_left fun x hx => ?_).trans (List.map_id l)).symm
    rw [h x hx]
    rfl
  rw [e, dot_mul, Int.zero_mul]
theorem enQ_app (ls ms : List Ld) (y : List Int) : enQ (ls ++ ms) y = enQ ls y + enQ ms y := by simp [enQ]
theorem enQ_cons (a : Ld) (ls : List Ld) (y : List Int) : enQ (a :: ls) y = a.wt * ((dot a.nums y * dot a.nums y : Int) : Rat) + enQ ls y := by simp [enQ]
theorem mrg_en {w : Nat} {e : Ent} {a : Ld} (h : EntOk w e) (hp : e.pr = prL a.nums) (y : List Int) :
    (mrg e a).ld.wt * ((dot e.ld.nums y * dot e.ld.nums y : Int) : Rat) = e.ld.wt * ((dot e.ld.nums y * dot e.ld.nums y : Int) : Rat) + a.wt * ((dot a.nums y * dot a.nums y : Int) : Rat) := by
  have e1 : dot e.ld.nums y = e.c * dot e.pr y := by
    rw [nums_mul h]
    exact dot_mul
  have e2 : dot a.nums y = conL a.nums * dot e.pr y := by
    have q := prL_mul (l := a.nums)
    rw [← hp] at q
    rw [← q, dot_mul, q]
  have e3 : dv (conL a.nums) e.c * (e.c : Rat) = (conL a.nums : Rat) := by
    rw [← dv_mulI h.nz]
    have q := dv_scale (a := conL a.nums) (b := 1) h.nz
    rw [Int.one_mul] at q
    rw [q]
    exact dv_int
  rw [e1, e2]
  show (e.ld.wt + a.wt * dv (conL a.nums) e.c ^ 2) * _ = _
  generalize dot e.pr y = d
  generalize dv (conL a.nums) e.c = q at *
  simp only [Rat.intCast_mul]
  rw [← e3]
  grind
theorem stepC_en {w : Nat} {ls : List Ld} {st : List Ent} {a : Ld} (h : StOk w ls st) (y : List Int) : enQ ((stepC st a).map (·.ld)) y = enQ (st.map (·.ld)) y + enQ [a] y := by
  have ea : enQ [a] y = a.wt * ((dot a.nums y * dot a.nums y : Int) : Rat) := by
    rw [enQ_cons]
    have : enQ [] y = 0 := rfl
    rw [this]
    exact Rat.add_zero _
  unfold stepC
  by_cases z : conL a.nums = 0
  · rw [if_pos z, ea, dot_zero (conL_zero.mp z)]
    have e0 : ((0 * 0 : Int) : Rat) = 0 := rfl
    rw [e0]
    grind
  · rw [if_neg z]
    cases hf : fndE st (prL a.nums) with
    | none =>
      show enQ ((st ++ [(⟨prL a.nums, a, conL a.nums⟩ : Ent)]).map (·.ld)) y = _
      rw [List.map_append, enQ_app]
      rfl
    | some e =>
      show enQ ((putE st (mrg e a)).map (·.ld)) y = _
      obtain ⟨he, hp⟩ := fndE_some hf
      obtain ⟨xs, ys, es, hs⟩ := putE_split h.nd he
      have ep := hs (mrg e a) rfl
      have eo := h.ent e he
      have me := mrg_en eo hp y
      rw [ep, es, List.map_append, List.map_append, List.map_cons, List.map_cons, enQ_app, enQ_app, enQ_cons, enQ_cons, ea]
      have e3 : (mrg e a).ld.nums = e.ld.nums := rfl
      rw [e3, me]
      grind
theorem cond_en {w : Nat} {ls : List Ld} (h : ∀ a ∈ ls, LdOk a ∧ a.nums.length = w) (y : List Int) : enQ (cond ls) y = enQ ls y := by
  have gen : ∀ (ms pre : List Ld) (st : List Ent), StOk w pre st → (∀ a ∈ ms, LdOk a ∧ a.nums.length = w) → enQ ((ms.foldl stepC st).map (·.ld)) y = enQ (st.map (·.ld)) y + enQ ms y := by
    intro ms
    induction ms with
    | nil =>
      intro pre st _ _
      have : enQ [] y = 0 := rfl
      rw [this, List.foldl_nil]
      grind
    | cons a ms ih =>
      intro pre st hs hm
      rw [List.foldl_cons, ih (pre ++ [a]) (stepC st a) (stepC_ok hs (hm a List.mem_cons_self).1 (hm a List.mem_cons_self).2) fun b hb => hm b (List.mem_cons_of_mem _ hb), stepC_en hs y,
        show a :: ms = [a] ++ ms from rfl, enQ_app]
      grind
  have q := gen ls [] [] ⟨fun _ h => (nomatch h), List.nodup_nil, List.Sublist.refl _, Nat.le_refl _⟩ h
  unfold cond condS
  rw [q]
  have : enQ (List.map (·.ld) ([] : List Ent)) y = 0 := rfl
  rw [this]
  grind
/-- what was put together stays as it is -/
theorem cond_idem {w : Nat} {ls : List Ld} (h : ∀ a ∈ ls, LdOk a ∧ a.nums.length = w) : cond (cond ls) = cond ls := by
  have q := condS_ok h
  have gen : ∀ (ms pre : List Ent), (∀ e ∈ pre ++ ms, EntOk w e) → ((pre ++ ms).map (·.pr)).Nodup → (ms.map (·.ld)).foldl stepC pre = pre ++ ms := by
    intro ms
    induction ms with
    | nil =>
      intro pre _ _
      simp
    | cons e ms ih =>
      intro pre ho nd
      have eo := ho e (List.mem_append_right _ List.mem_cons_self)
      have hn : fndE pre (prL e.ld.nums) = none := by
        rw [eo.p]
        refine List.find?_eq_none.mpr fun e' he' z => ?_
        rw [List.map_append, List.map_cons] at nd
        exact (List.nodup_append.mp nd).2.2 e'.pr (List.mem_map.mpr ⟨e', he', rfl⟩) e.pr List.mem_cons_self (of_decide_eq_true z)
      have st : stepC pre e.ld = pre ++ [e] := by
        unfold stepC
        rw [if_neg (by rw [eo.c]; exact eo.nz), hn]
        show pre ++ [(⟨prL e.ld.nums, e.ld, conL e.ld.nums⟩ : Ent)] = pre ++ [e]
        rw [eo.p, eo.c]
      rw [List.map_cons, List.foldl_cons, st, ih (pre ++ [e]) (by rw [List.append_assoc]; exact ho) (by rw [List.append_assoc]; exact nd), List.append_assoc]
      rfl
  have z := gen (condS ls) [] (by rw [List.nil_append]; exact q.ent) (by rw [List.nil_append]; exact q.nd)
  unfold cond
  show List.map (·.ld) (((condS ls).map (·.ld)).foldl stepC []) = _
  rw [z, List.nil_append]
end DL
set_option Elab.async false
set_option linter.all false
set_option maxRecDepth 100000
set_option maxHeartbeats 4000000
namespace K22
open PySem PySem.Spec L2 DL
open PyProof.Rows hiding St
open SX (S)
/-! one step, by the goal's head -/

/-! Ratio and Span by numbers: their promises used -/

/-! comprehensions, sums, lists of others -/

/-! books -/

section
variable {W : WX} {E : ET} {ta : TA} {r : Rho} {m : Mu} {K : KT} {CL CR CB : Addr}
theorem we_ld (h : Wa W E ta r m fun ds m1 => ∃ a nd, ds = [ts a.lab, rq CR a.wt, nd] ∧ LdOk a ∧ (nd = li a.nums ∨ nd = tup a.nums) ∧ K (ldD CL CR a) m1) : We W E (tMk CL 4 (S_load CL CR) [] W ta) r m K :=
  we_mk0 (h.imp fun ds m1 ⟨a, nd, e, ok, hn, k⟩ => by
    subst e
    exact ⟨rfl, fun x _ => ⟨x, m1, a, nd, rfl, rfl, ok, hn, _, _, rfl, rfl, k⟩⟩)
theorem we_bk (h : Wa W E ta r m fun ds m1 => ∃ w ls, ds = [.int (w : Nat), .lst (ls.map (ldD CL CR))] ∧ BkOk w ls ∧ K (bkD CB CL CR w ls) m1) : We W E (tMk CB 3 (S_book CB CL CR) [] W ta) r m K :=
  we_mk0 (h.imp fun ds m1 ⟨w, ls, e, ok, k⟩ => by
    subst e
    exact ⟨rfl, fun x _ => ⟨x, m1, w, ls, rfl, rfl, ok, _, _, rfl, rfl, k⟩⟩)
end
theorem tup_kD (p : List Int) : tup p = .tup ((p.map Sum.inl : List Key).map kD) := by
  rw [List.map_map]
  rfl
theorem getT {m : Mu} {q : Addr} {kvs : List (List Key × D)} {p : List Int} (h : At m q (.dit kvs)) : GetD m (.ref q) (tup p) (valD kvs (p.map Sum.inl)) := by
  rw [tup_kD]
  exact .t h
theorem putT {m m' : Mu} {q : Addr} {kvs : List (List Key × D)} {p : List Int} {d : D} (h : At m q (.dit kvs)) (hl : kvs.length < 1000000) (hp : Put m q (.dit (putD kvs (p.map Sum.inl) d)) m') : PutD m (.ref q) (tup p) d m' := by
  rw [tup_kD]
  exact .t h hl hp
section
variable {G : Gx} {C_Ratio C_Load C_Book C_OutOfBounds : Addr}
local macro_rules | `(tactic| walk_at "fld_1") => `(tactic| (with_reducible refine we_fldF ?_))
local macro_rules | `(tactic| walk_at "useWe_1") => `(tactic| first | (with_reducible refine we_mt ?_) | (with_reducible refine we_ratQ ?_) | fail)
local macro_rules | `(tactic| walk_at "sWe_1") => `(tactic| first
  | ((with_reducible refine we_var (d := ?d) ?hv ?hk); case hv => rfl)
  | (with_reducible first
    | refine we_cint ?_ | refine we_2 ?_ | refine we_cl0 ?_ | refine we_tup ?_ | refine we_1 ?_ | refine we_c2 ?_ | refine we_cbl ?_ | refine we_cnon ?_ | refine we_cty ?_ | refine we_cref ?_
    | refine we_op ?_ | refine we_andV ?_ | refine we_orV ?_ | refine we_notV ?_ | refine we_3 ?_ | refine we_ifx ?_ | refine we_cstr ?_ | refine we_clH ?_)
  | walk_at "fld_1"
  | walk_at "useWe_1")
local macro_rules | `(tactic| walk_at "useW2_1") => `(tactic| first | (with_reducible refine w2_addO (by assumption) (by decide) .fixed .fixed ?_) | (with_reducible refine w2_mulO (by assumption) (by decide) .fixed .fixed ?_) | (with_reducible refine w2_powO (by assumption) (by decide) .fixed (by assumption) ?_) | fail)
local macro_rules | `(tactic| walk_at "sW2_1") => `(tactic| first
  | (with_reducible first
    | refine w2_add ?_ | refine w2_sub ?_ | refine w2_mul ⟨?_, ?_⟩ | refine w2_fdiv ⟨?_, ?_⟩ | refine w2_mod ⟨?_, ?_⟩ | refine w2_pow ⟨?_, ?_⟩ | refine w2_eqI ?_ | refine w2_neI ?_ | refine w2_lt ?_ | refine w2_le ?_ | refine w2_gt ?_ | refine w2_ge ?_ | refine w2_eqFI ?_ | refine w2_neFI ?_)
  | ((with_reducible refine w2_ixT (d := ?d) ⟨?hv, ?hk⟩); case hv => rfl)
  | ((with_reducible refine w2_ixL (d := ?d) ⟨?hv, ?hk⟩); case hv => rfl)
  | ((with_reducible refine w2_ixM (d := ?d) .head ⟨?hv, ?hk⟩); case hv => rfl)
  | (with_reducible first
    | refine w2_eqIH ?_ | refine w2_neIH ?_ | refine w2_mulH ⟨?_, ?_⟩ | refine w2_addH ?_ | refine w2_subH ?_ | refine w2_isN ?_ | refine w2_notN ?_ | refine w2_isB ?_ | refine w2_notB ?_)
  | walk_at "useW2_1")
local macro_rules | `(tactic| walk_at "sWa_1") => `(tactic| with_reducible first | refine wa_nil ?_ | refine wa_cons ?_)
local macro_rules | `(tactic| walk_at "useWs_1") => `(tactic| first | (with_reducible refine ws_rs0 ?_) | (with_reducible refine ws_rs ?_) | fail)
local macro_rules | `(tactic| walk_at "sWs_1") => `(tactic| first
  | (with_reducible first | refine ws_seq ?_ | refine ws_ret ?_ | refine ws_asg ?_ | refine ws_next ?_ | refine ws_drop ?_ | refine ws_par ?_ | refine ws_par3 ?_ | refine ws_fldN ?_ | refine ws_brk ?_ | refine ws_cont ?_)
  | walk_at "useWs_1")
local macro_rules | `(tactic| walk_at "sWt_1") => `(tactic| with_reducible first | refine wt_test ?_ | refine wt_tr ?_ | refine wt_and ?_ | refine wt_or ?_ | refine wt_not ?_)
local macro_rules | `(tactic| walk_at "useWc_1") => `(tactic| first
  | (with_reducible refine wc_len (SeqM.len (by assumption)) ?_) | (with_reducible refine wc_sumG ?_) | (with_reducible refine wc_sumI ?_) | (with_reducible refine wc_tupleL .tup ?_) | (with_reducible refine wc_tupleL .lst ?_) | (with_reducible refine wc_listF .tup ?_) | (with_reducible refine wc_listF .lst ?_) | fail)
local macro_rules | `(tactic| walk_at "sWc_1") => `(tactic| first
  | (with_reducible first | refine wc_int ?_ | refine wc_abs ?_ | refine wc_min ?_ | refine wc_gcd ?_ | refine wc_isiT .int kit_ii ?_ | refine wc_isiT .int kit_ib ?_ | refine wc_len .lst ?_ | refine wc_len .tup ?_ | refine wc_strI ?_ ?_)
  | walk_at "useWc_1")
local macro_rules | `(tactic| walk_at "sWi_1") => `(tactic| with_reducible first | refine wi_seq ?_ | refine wi_rng1S ?_ | refine wi_rng2 ?_ | refine wi_zipM ?_)
local macro_rules | `(tactic| walk_at "sWg_1") => `(tactic| with_reducible first | refine wg_name ?_ | refine wg_subM ?_ | refine wg_tup rfl ?_)
local macro_rules | `(tactic| walk_at "sW1_1") => `(tactic| first | (with_reducible refine w1_neg ?_) | walk_at "useW2_1")
local macro_rules | `(tactic| walk_at "sWgs_1") => `(tactic| with_reducible first | refine wgs_cons ?_ | refine wgs_nil ?_)
local macro_rules | `(tactic| walk_at "sS_1") => `(tactic| first | (with_reducible refine SlA.mk ?_ ?_) | (with_reducible refine RngA.mk ?_ ?_) | (with_reducible refine LcS.mk ?_ (fun a ha q => ?_) ?_) | (with_reducible exact LcL.mk rfl rfl) | fail)
local macro_rules | `(tactic| walk_at "bks_1") => `(tactic| first
  | (with_reducible refine fld_label (by assumption) ?_) | (with_reducible refine fld_weight (by assumption) ?_) | (with_reducible refine fld_numbers (by assumption) ?_)
  | (with_reducible refine fld_bwidth (by assumption) ?_) | (with_reducible refine fld_loads (by assumption) ?_) | (with_reducible refine fld_places (by assumption) ?_))
local macro_rules | `(tactic| walk_at "use_1") => `(tactic| first | walk_at "bks_1" | (with_reducible refine RatQ.mk ?_ ?_ ?_) | (with_reducible refine use_qadd ?_ ?_ ?_) | (with_reducible refine use_qmul ?_ ?_ ?_) | fail)
local macro_rules | `(tactic| walk_at "sX_1") => `(tactic| first
  | (with_reducible refine ⟨_, rfl, ?_⟩)
  | (with_reducible refine fld_top (by assumption) ?_) | (with_reducible refine fld_bottom (by assumption) ?_)
  | (with_reducible refine ⟨_, .bl, ?_⟩)
  | ((with_reducible refine ⟨?h, ?_⟩); case h => rfl)
  | (with_reducible refine ⟨_, _, rfl, ?_⟩)
  | (with_reducible refine ⟨_, _, _, rfl, ?_⟩)
  | walk_at "use_1"
  | (with_reducible refine setN_top (by assumption) ?_) | (with_reducible refine setN_bottom (by assumption) ?_)
  | ((with_reducible refine ⟨_, _, _, ?j, _, rfl, rfl, .head, ?h, .head, ?_⟩); case h => rfl)
  | fail)
local macro_rules | `(tactic| walk_at "st_1") => `(tactic| first
  | ((with_reducible show We _ _ _ _ _ _); walk_at "sWe_1")
  | ((with_reducible show W2 _ _ _ _ _ _ _ _); walk_at "sW2_1")
  | ((with_reducible show Wa _ _ _ _ _ _); walk_at "sWa_1")
  | ((with_reducible show Ws _ _ _ _ _ _); walk_at "sWs_1")
  | ((with_reducible show Wt _ _ _ _ _ _); walk_at "sWt_1")
  | ((with_reducible show Wc _ _ _ _ _ _ _); walk_at "sWc_1")
  | ((with_reducible show Wi _ _ _ _ _ _); walk_at "sWi_1")
  | ((with_reducible show Wg _ _ _ _ _ _ _); walk_at "sWg_1")
  | ((with_reducible show W1 _ _ _ _ _ _ _); walk_at "sW1_1")
  | ((with_reducible show Wgs _ _ _ _ _ _ _); walk_at "sWgs_1")
  | walk_at "sS_1" | walk_at "sX_1" | fail)
local macro_rules | `(tactic| walk_at "br_1") => `(tactic| ((with_reducible refine ⟨fun hb => ?_, fun hb => ?_⟩) <;> (try simp only [decide_eq_true_eq, decide_eq_false_iff_not, Bool.not_eq_true', Bool.not_eq_false', Bool.and_eq_true, Bool.or_eq_true, reduceCtorEq, List.length_map, Bool.not_true, Bool.not_false, DL.isNon, not_true_eq_false, not_false_eq_true, Classical.not_not, List.all_cons, List.all_nil, id_eq, Bool.and_self, Bool.true_and, decide_true, decide_false] at hb)))
local macro_rules | `(tactic| walk_at "gn_1") => `(tactic| repeat' (first | walk_at "st_1" | walk_at "br_1" | fail))
def S_cond (CB CL CR : Addr) : SpecD := fun ds m K _ => ∃ w ls, ds = [bkD CB CL CR w ls] ∧ BkOk w ls ∧ Phi ls ≤ 1900 ∧ K (bkD CB CL CR w (cond ls)) m
theorem ok_cond (T : Txt G C_Ratio C_Load C_Book C_OutOfBounds) (pc : PowC G.K C_Ratio) (k_Ratio : Mak G 1 "Ratio" C_Ratio 3 (S_init C_Ratio) []) (k_Load : Mak G 3 "Load" C_Load 4 (S_load C_Load C_Ratio) []) (k_Book : Mak G 3 "Book" C_Book 3 (S_book C_Book C_Load C_Ratio) []) (o_Ratio___add__ : Opr G 3 C_Ratio "__add__" 2 (S_qadd C_Ratio)) (o_Ratio___mul__ : Opr G 3 C_Ratio "__mul__" 2 (S_qmul C_Ratio)) (o_Ratio___pow__ : Opr G 4 C_Ratio "__pow__" 2 (S_qraised C_Ratio C_OutOfBounds)) (c__split : Cal G 1 "_split" 1 S_split []) {f : Addr} {fd : FuncData} (F : L2.Fun G.K "condensed" "condensed" s_condensed f fd) (b : L2.Binds G.K fd ["book"] []) : Fnx G 5 f 1 (S_cond C_Book C_Load C_Ratio) [] := by
  refine fnx_of F sc_condensed rfl b .nil rfl (fun cdv A outer s H FF hr tk => ⟨_, (pss_cons (ps_set (i := 1) sc_condensed.nd rfl (Or.inl rfl) pe_dnewT) (pss_cons (ps_for (passes_of rfl) rfl (pi_seq (pe_fld (pe_var (i := 0) rfl (Or.inl rfl) nd_book.1 nd_book.2) rfl)) (pg_name (i := 2) sc_condensed.nd rfl (Or.inl rfl)) (pss_cons (ps_asg (pe_cl c__split hr (by decide) tk rfl (pa_cons (pe_fld (pe_var (i := 2) rfl (Or.inl rfl) nd_entry.1 nd_entry.2) rfl) pa_nil)) (pg_tup rfl (pgs_cons (pg_name (i := 3) sc_condensed.nd rfl (Or.inl rfl)) (pgs_cons (pg_name (i := 4) sc_condensed.nd rfl (Or.inl rfl)) pgs_nil)))) (pss_cons (ps_if (pt_cm (os_eqF hr tk) (pe_var (i := 3) rfl (Or.inl rfl) nd_content.1 nd_content.2) pe_int (nomark _)) (pss_one ps_continue) pss_nil) (pss_one (ps_if (pt_cm (os_inDc hr) (pe_var (i := 4) rfl (Or.inl rfl) nd_primitive.1 nd_primitive.2) (pe_var (i := 1) rfl (Or.inl rfl) nd_kept.1 nd_kept.2) rfl) (pss_cons (ps_asg (pe_dget (roomD hr) (pe_var (i := 1) rfl (Or.inl rfl) nd_kept.1 nd_kept.2) (pe_var (i := 4) rfl (Or.inl rfl) nd_primitive.1 nd_primitive.2) (fun _ _ => rfl)) (pg_tup rfl (pgs_cons (pg_name (i := 5) sc_condensed.nd rfl (Or.inl rfl)) (pgs_cons (pg_name (i := 6) sc_condensed.nd rfl (Or.inl rfl)) pgs_nil)))) (pss_cons (ps_set (i := 7) sc_condensed.nd rfl (Or.inl rfl) (pe_mak k_Ratio hr (by decide) tk rfl (pa_cons (pe_var (i := 3) rfl (Or.inl rfl) nd_content.1 nd_content.2) (pa_cons (pe_var (i := 6) rfl (Or.inl rfl) nd_first_content.1 nd_first_content.2) pa_nil)))) (pss_cons (ps_set (i := 8) sc_condensed.nd rfl (Or.inl rfl) (pe_bin (os_add hr tk) (pe_fld (pe_var (i := 5) rfl (Or.inl rfl) nd_first.1 nd_first.2) rfl) (pe_bin (os_mul hr tk) (pe_fld (pe_var (i := 2) rfl (Or.inl rfl) nd_entry.1 nd_entry.2) rfl) (pe_bin (os_powF hr tk) (pe_var (i := 7) rfl (Or.inl rfl) nd_multiple.1 nd_multiple.2) pe_int)))) (pss_one (ps_dput (roomD hr) (pe_var (i := 1) rfl (Or.inl rfl) nd_kept.1 nd_kept.2) (pe_var (i := 4) rfl (Or.inl rfl) nd_primitive.1 nd_primitive.2) (pe_tup (pa_cons (pe_mak k_Load hr (by decide) tk rfl (pa_cons (pe_fld (pe_var (i := 5) rfl (Or.inl rfl) nd_first.1 nd_first.2) rfl) (pa_cons (pe_var (i := 8) rfl (Or.inl rfl) nd_weight.1 nd_weight.2) (pa_cons (pe_fld (pe_var (i := 5) rfl (Or.inl rfl) nd_first.1 nd_first.2) rfl) pa_nil)))) (pa_cons (pe_var (i := 6) rfl (Or.inl rfl) nd_first_content.1 nd_first_content.2) pa_nil))) (by rfl)))))) (pss_one (ps_dput (roomD hr) (pe_var (i := 1) rfl (Or.inl rfl) nd_kept.1 nd_kept.2) (pe_var (i := 4) rfl (Or.inl rfl) nd_primitive.1 nd_primitive.2) (pe_tup (pa_cons (pe_var (i := 2) rfl (Or.inl rfl) nd_entry.1 nd_entry.2) (pa_cons (pe_var (i := 3) rfl (Or.inl rfl) nd_content.1 nd_content.2) pa_nil))) (by rfl)))))))) (pss_one (ps_ret (pe_mak k_Book hr (by decide) tk rfl (pa_cons (pe_fld (pe_var (i := 0) rfl (Or.inl rfl) nd_book.1 nd_book.2) rfl) (pa_cons (pe_lock (pe_lc (own := [("one", 9), ("_", 10)]) (g := (gTup G.K 2 (gCons (gName 9) (gCons (gName 10) gNil)))) (tt := tYes) rfl sc_condensed.nd (pi_valuesT (pe_var (i := 1) rfl (Or.inl rfl) nd_kept.1 nd_kept.2)) (blkOk_by (N := N_condensed) (sc := (defScope s_condensed)) (by decide +kernel)) (fun _ _ _ _ _ => (pg_tupK (KK := G.K) (by rfl) rfl (pgs_cons (pg_name (i := 9) sc_condensed.nd rfl (Or.inl rfl)) (pgs_cons (pg_name (i := 10) sc_condensed.nd rfl (Or.inl rfl)) pgs_nil)))) (fun _ _ _ _ _ => pts_nil) (fun _ _ _ _ _ => (pe_var (i := 9) rfl (Or.inl rfl) nd_one.1 nd_one.2)))) pa_nil))))))), ?_⟩)
  rintro ds m K E - ⟨w, ls, rfl, ok, ph, k⟩
  show Ws _ _ _ [some (bkD C_Book C_Load C_Ratio w ls), none, none, none, none, none, none, none, none, none, none] _ _
  try dsimp only [cx_G, cx_K]
  have R := T.R_Ratio
  have LD := T.L_Load
  have BK := T.B_Book
  refine Ws.shed ?_
  walk_at "gn_1"
  refine we_dnewT fun q hq => ?_
  walk_at "gn_1"
  let RR : Option D → Option D → Option D → Option D → Option D → Option D → Option D → Rho := fun o2 o3 o4 o5 o6 o7 o8 => [some (bkD C_Book C_Load C_Ratio w ls), some (.ref q), o2, o3, o4, o5, o6, o7, o8, none, none]
  refine ws_seqI ?_
  walk_at "gn_1"
  refine ⟨_, fun i r' m' => m' = (q, .dit (kvE C_Load C_Ratio (condS (ls.take i)))) :: m ∧ ∃ o2 o3 o4 o5 o6 o7 o8, r' = RR o2 o3 o4 o5 o6 o7 o8, .tup, ⟨by rw [List.take_zero]; rfl, _, _, _, _, _, _, _, rfl⟩, ?_, ?_⟩
  · rintro i y r' m' hy ⟨rfl, o2, o3, o4, o5, o6, o7, o8, rfl⟩
    rw [List.getElem?_map] at hy
    obtain ⟨a, ha, rfl⟩ := Option.map_eq_some_iff.mp hy
    have hm := List.mem_of_getElem? ha
    have ao := ok.ok a hm
    have nb : ∀ z ∈ a.nums, Bd 20 z := fun z hz => by
      have := ao.nb z hz
      unfold Bd
      omega
    have n2 := ao.n2
    have hi : i < ls.length := (List.getElem?_eq_some_iff.mp ha).1
    have st := condS_ok (w := w) (ls := ls.take i) fun b hb => ⟨ok.ok b (List.mem_of_mem_take hb), ok.wid b (List.mem_of_mem_take hb)⟩
    have e1 : condS (ls.take (i + 1)) = stepC (condS (ls.take i)) a := by rw [take_succ' ha, condS_snoc]
    have pht : Phi (ls.take i) + Phi [a] ≤ 1900 := by
      have h1 : Phi ls = Phi (ls.take (i + 1)) + Phi (ls.drop (i + 1)) := by rw [← Phi_app, List.take_append_drop]
      have h2 : Phi (ls.take (i + 1)) = Phi (ls.take i) + Phi [a] := by rw [take_succ' ha, Phi_app]
      omega
    have fin : ∀ mm : Mu, mm = (q, .dit (kvE C_Load C_Ratio (stepC (condS (ls.take i)) a))) :: m → mm = (q, .dit (kvE C_Load C_Ratio (condS (ls.take (i + 1))))) :: m := by
      rw [e1]
      exact fun _ h => h
    generalize condS (ls.take i) = T0 at st fin
    walk_at "gn_1"
    refine use_split (by omega) nb ?_
    walk_at "gn_1"
    refine ws_if ?_
    walk_at "gn_1"
    · exact ⟨fin _ (by unfold stepC; rw [if_pos ‹_›]), _, _, _, _, _, _, _, rfl⟩
    refine ws_if ?_
    walk_at "gn_1"
    have pm : ∀ e ∈ T0, bt e.ld.wt + 40 + Phi [a] ≤ 1900 := fun e he => by
      have h1 := Phi_mem (ls := T0.map (·.ld)) (a := e.ld) (List.mem_map.mpr ⟨e, he, rfl⟩)
      have h2 := st.phi
      omega
    have ptm : bt a.wt + 40 ≤ Phi [a] := Phi_mem (List.mem_singleton.mpr rfl)
    have tl : T0.length ≤ i := by
      have h1 := st.lab.length_le
      rw [List.length_map, List.length_map, List.length_take] at h1
      omega
    have len := ok.len
    have kl : (kvE C_Load C_Ratio T0).length < 1000000 := by
      unfold kvE
      rw [List.length_map]
      omega
    have gt := getT (p := prL a.nums) (At.head (m := m) (p := q) (o := .dit (kvE C_Load C_Ratio T0)))
    rw [kvE_val] at gt
    cases hf : fndE T0 (prL a.nums) with
    | none =>
      rw [hf] at gt
      refine w2_inDc gt ?_
      rw [show (Option.map (fun e : Ent => D.tup [ldD C_Load C_Ratio e.ld, .int e.c]) none).isSome = false from rfl]
      walk_at "gn_1"
      refine ws_dput ?_
      walk_at "gn_1"
      refine ⟨_, putT .head kl .head, fin _ ?_, _, _, _, _, _, _, _, rfl⟩
      have z := kvE_new (CL := C_Load) (CR := C_Ratio) (st := T0) (e := ⟨prL a.nums, a, conL a.nums⟩) hf
      unfold stepC
      rw [if_neg ‹_›, hf]
      exact congrArg (fun u => (q, MO.dit u) :: m) z
    | some e =>
      rw [hf] at gt
      obtain ⟨he, hp⟩ := fndE_some hf
      have eo := st.ent e he
      have mb := mrg_bt eo ao
      have mo := mrg_ok eo ao
      have pe := pm e he
      refine w2_inDc gt ?_
      rw [show (Option.map (fun e : Ent => D.tup [ldD C_Load C_Ratio e.ld, .int e.c]) (some e)).isSome = true from rfl]
      walk_at "gn_1"
      refine we_dget ?_
      walk_at "gn_1"
      refine ⟨_, gt, ?_⟩
      walk_at "gn_1"
      · exact eo.nz
      · have h1 := conL_bd eo.ok.nb
        rw [eo.c] at h1
        exact (show Bd 14 e.c by unfold Bd; omega).mono (by decide)
      refine use_qraised mb.1 (by decide) (by decide) (by decide) ?_
      have ex : dv (conL a.nums) e.c ^ (2 : Int).toNat = dv (conL a.nums) e.c ^ 2 := rfl
      have e2 : dv (conL a.nums) e.c ^ 2 = dv (conL a.nums) e.c * dv (conL a.nums) e.c := by grind
      rw [ex]
      have qa := (bt_qb a.wt).mono (show bt a.wt ≤ 1900 by omega)
      have qe := (bt_qb e.ld.wt).mono (show bt e.ld.wt ≤ 1900 by omega)
      have q2 : Qb 28 (dv (conL a.nums) e.c ^ 2) := by
        rw [e2]
        exact qb_mul mb.1 mb.1
      walk_at "gn_1"
      · exact qa.mono (by decide)
      · exact q2.mono (by decide)
      walk_at "gn_1"
      · exact qe.mono (by decide)
      · exact (qb_mul qa q2).mono (by decide)
      walk_at "gn_1"
      refine ws_dput ?_
      walk_at "gn_1"
      refine we_ld ?_
      walk_at "gn_1"
      refine ⟨(mrg e a).ld, tup (mrg e a).ld.nums, rfl, mo.ok, .inr rfl, ?_⟩
      walk_at "gn_1"
      refine ⟨_, putT .head kl .head, fin _ ?_, _, _, _, _, _, _, _, rfl⟩
      have z := kvE_put (CL := C_Load) (CR := C_Ratio) (st := T0) (e := e) (e2 := mrg e a) (by show fndE T0 e.pr = _; rw [hp]; exact hf)
      unfold stepC
      rw [if_neg ‹_›, hf]
      have ep : (mrg e a).pr = prL a.nums := hp
      rw [ep] at z
      exact congrArg (fun u => (q, MO.dit u) :: m) z
  · rintro r' m' ⟨rfl, o2, o3, o4, o5, o6, o7, o8, rfl⟩
    rw [List.length_map, List.take_length]
    walk_at "gn_1"
    refine we_bk ?_
    walk_at "gn_1"
    have lt := (cond_ok ok).1.len
    have lt2 : (condS ls).length ≤ 200 := by
      unfold DL.cond at lt
      rw [List.length_map] at lt
      exact lt
    refine we_lock fun o kws => we_lcs (α := Ent) (fun e => .tup [ldD C_Load C_Ratio e.ld, .int e.c]) (fun e => ldD C_Load C_Ratio e.ld) (gk_tup (gks_cons (gk_name rfl) (gks_cons (gk_name rfl) gks_nil))) (wi_valsT (we_var (i := 1) rfl ⟨q, o, kws, kvE C_Load C_Ratio (condS ls), rfl, .head, condS ls, ?_, LcS.mk (Nat.ble_eq_true_of_le (by omega)) (fun e he qq => ?_) ?_⟩))
    · unfold kvE
      rw [List.map_map]
      rfl
    · walk_at "gn_1"
    · refine ⟨_, _, rfl, ?_⟩
      walk_at "gn_1"
      refine ⟨w, cond ls, ?_, (cond_ok ok).1, 1, k⟩
      unfold DL.cond
      rw [List.map_map]
      rfl
end
end K22
set_option Elab.async false
set_option linter.all false
set_option maxRecDepth 100000
/-! MG: determinants by the first row; small tables. -/
namespace DL
open PySem PySem.Spec L2
open PyProof.Rows hiding St
/-- n rows of n numbers -/
structure Sq (n : Nat) (rows : List (List Int)) : Prop where
  len : rows.length = n
  wid : ∀ r ∈ rows, r.length = n
def cutC (j : Nat) (r : List Int) : List Int := r.take j ++ r.drop (j + 1)
def minor (rows : List (List Int)) (j : Nat) : List (List Int) := rows.tail.map (cutC j)
def sg (j : Nat) : Int := if j % 2 = 0 then 1 else -1
def detF : Nat → List (List Int) → Int
  | 0, _ => 1
  | k + 1, rows => ((List.range (k + 1)).map fun j => sg j * (rows[0]!)[j]! * detF k (minor rows j)).sum
def detL (rows : List (List Int)) : Int := detF rows.length rows
theorem sg_zero : sg 0 = 1 := rfl
theorem sg_succ (j : Nat) : sg (j + 1) = -sg j := by
  unfold sg
  by_cases h : j % 2 = 0
  · rw [if_pos h, if_neg (by omega)]
  · rw [if_neg h, if_pos (by omega)]
    rfl
theorem sg_bd (j : Nat) : Bd 1 (sg j) := by
  unfold sg
  split <;> exact bd_lit (by decide)
theorem cutC_len {r : List Int} {n j : Nat} (h : r.length = n + 1) (hj : j < n + 1) : (cutC j r).length = n := by
  unfold cutC
  rw [List.length_append, List.length_take, List.length_drop]
  omega
theorem Sq.minor {n j : Nat} {rows : List (List Int)} (h : Sq (n + 1) rows) (hj : j < n + 1) : Sq n (minor rows j) := by
  refine ⟨by rw [DL.minor, List.length_map, List.length_tail, h.len]; omega, fun r hr => ?_⟩
  obtain ⟨a, ha, rfl⟩ := List.mem_map.mp hr
  exact cutC_len (h.wid a (List.mem_of_mem_tail ha)) hj
theorem szT_minor {a j : Nat} {rows : List (List Int)} (h : SzT a rows) : SzT a (minor rows j) := fun r hr z hz => by
  obtain ⟨b, hb, rfl⟩ := List.mem_map.mp hr
  rcases List.mem_append.mp hz with q | q
  · exact h b (List.mem_of_mem_tail hb) z (List.mem_of_mem_take q)
  · exact h b (List.mem_of_mem_tail hb) z (List.mem_of_mem_drop q)
theorem ce_mem {n i j : Nat} {rows : List (List Int)} (h : Sq n rows) (hi : i < n) (hj : j < n) : ce rows i j ∈ rows[i]! := mem_at (by rw [h.wid _ (mem_at (by rw [h.len]; exact hi))]; exact hj)
theorem ce_bd {a n i j : Nat} {rows : List (List Int)} (h : Sq n rows) (s : SzT a rows) (hi : i < n) (hj : j < n) : Bd a (ce rows i j) := s _ (mem_at (by rw [h.len]; exact hi)) _ (ce_mem h hi hj)
theorem detF_bd {b : Nat} : ∀ {n : Nat} {rows : List (List Int)}, Sq n rows → n ≤ 64 → SzT b rows → Bd (n * (b + 66) + 1) (detF n rows)
  | 0, _, _, _, _ => by
    show Bd _ 1
    exact (show Bd 1 (1 : Int) from bd_lit (by decide)).mono (by omega)
  | n + 1, rows, h, hn, s => by
    have key : Bd ((1 + b + (n * (b + 66) + 1)) + ((List.range (n + 1)).map fun j => sg j * (rows[0]!)[j]! * detF n (minor rows j)).length) (detF (n + 1) rows) := bd_sum fun z hz => by
      obtain ⟨j, hj, rfl⟩ := List.mem_map.mp hz
      have hj := List.mem_range.mp hj
      exact ((sg_bd j).mul (ce_bd h s (by omega) hj)).mul (detF_bd (h.minor hj) (by omega) (szT_minor s))
    refine key.mono ?_
    rw [List.length_map, List.length_range, Nat.succ_mul]
    omega
theorem Sq.row {n i : Nat} {rows : List (List Int)} (h : Sq n rows) (hi : i < n) : (rows[i]!).length = n := h.wid _ (mem_at (by rw [h.len]; exact hi))
/-! small tables as they are written -/
theorem sq0 {rows : List (List Int)} (h : Sq 0 rows) : rows = [] := List.eq_nil_of_length_eq_zero h.len
theorem len1 {α : Type} {l : List α} (h : l.length = 1) : ∃ a, l = [a] := List.length_eq_one_iff.mp h
theorem len2 {α : Type} {l : List α} (h : l.length = 2) : ∃ a b, l = [a, b] := by
  match l, h with
  | [a, b], _ => exact ⟨a, b, rfl⟩
theorem len3 {α : Type} {l : List α} (h : l.length = 3) : ∃ a b c, l = [a, b, c] := by
  match l, h with
  | [a, b, c], _ => exact ⟨a, b, c, rfl⟩
theorem sq1 {rows : List (List Int)} (h : Sq 1 rows) : ∃ a, rows = [[a]] := by
  obtain ⟨r, rfl⟩ := len1 h.len
  obtain ⟨a, rfl⟩ := len1 (h.wid r (by simp))
  exact ⟨a, rfl⟩
theorem sq2 {rows : List (List Int)} (h : Sq 2 rows) : ∃ a b c d, rows = [[a, b], [c, d]] := by
  obtain ⟨r, s, rfl⟩ := len2 h.len
  obtain ⟨a, b, rfl⟩ := len2 (h.wid r (by simp))
  obtain ⟨c, d, rfl⟩ := len2 (h.wid s (by simp))
  exact ⟨a, b, c, d, rfl⟩
theorem sq3 {rows : List (List Int)} (h : Sq 3 rows) : ∃ a b c d e f g k l, rows = [[a, b, c], [d, e, f], [g, k, l]] := by
  obtain ⟨r, s, t, rfl⟩ := len3 h.len
  obtain ⟨a, b, c, rfl⟩ := len3 (h.wid r (by simp))
  obtain ⟨d, e, f, rfl⟩ := len3 (h.wid s (by simp))
  obtain ⟨g, k, l, rfl⟩ := len3 (h.wid t (by simp))
  exact ⟨a, b, c, d, e, f, g, k, l, rfl⟩
theorem det0 : detL [] = 1 := rfl
theorem det1 {a : Int} : detL [[a]] = a := by simp [detL, detF, minor, sg, List.range, List.range.loop]
theorem det2 {a b c d : Int} : detL [[a, b], [c, d]] = a * d - b * c := by
  simp [detL, detF, minor, cutC, sg, List.range, List.range.loop]
  grind
theorem det3 {a b c d e f g k l : Int} : detL [[a, b, c], [d, e, f], [g, k, l]] = a * (e * l - f * k) - b * (d * l - f * g) + c * (d * k - e * g) := by
  simp [detL, detF, minor, cutC, sg, List.range, List.range.loop]
  grind
theorem rest_eq {rows : List (List Int)} {j i : Nat} (h : i = j + 1) : D.lst ((rows.drop 1).map fun a => .lst ((a.take j).map D.int ++ (a.drop i).map D.int)) = lli (minor rows j) := by
  subst h
  unfold minor lli
  rw [List.map_map, List.drop_one]
  congr 2
  funext a
  show _ = D.lst ((cutC j a).map D.int)
  unfold cutC
  rw [List.map_append]
theorem detF_succ (k : Nat) (rows : List (List Int)) : detF (k + 1) rows = ((List.range (k + 1)).map fun j => sg j * (rows[0]!)[j]! * detF k (minor rows j)).sum := rfl
theorem sum_snoc {f : Nat → Int} (j : Nat) : ((List.range (j + 1)).map f).sum = ((List.range j).map f).sum + f j := by
  rw [List.range_succ]
  simp
def S_det (N : Nat) : SpecD := fun ds m K _ => ∃ rows n b, ds = [lli rows] ∧ Sq n rows ∧ n ≤ N ∧ n ≤ 64 ∧ SzT b rows ∧ b ≤ 100000 ∧ K (.int (detL rows)) m
theorem use_det {N n b : Nat} {rows : List (List Int)} {d : D} {m : Mu} {K : KT} {E : Ex → Mu → Prop} (e : d = lli rows) (h : Sq n rows) (h1 : n ≤ N) (h2 : n ≤ 64) (s : SzT b rows) (hb : b ≤ 100000) (k : K (.int (detL rows)) m) : S_det N [d] m K E := ⟨rows, n, b, by rw [e], h, h1, h2, s, hb, k⟩
/-! ### the inverse by cofactors -/
def sgd (v : Int) : Int := if v < 0 then -1 else 1
def cutR (j : Nat) (rows : List (List Int)) : List (List Int) := rows.take j ++ rows.drop (j + 1)
def cof (rows : List (List Int)) (i j : Nat) : Int := detL (cutR j (rows.map (cutC i)))
def dueE (rows : List (List Int)) (over : Int) (i j : Nat) : Int := over * sg i * sgd (detL rows) * sg j * cof rows i j
def dueL (rows : List (List Int)) (over : Int) (i : Nat) : List Int := (List.range rows.length).map fun j => dueE rows over i j
def dueR (rows : List (List Int)) (over : Int) : List (List Int) := (List.range rows.length).map (dueL rows over)
theorem Sq.cut {n i j : Nat} {rows : List (List Int)} (h : Sq (n + 1) rows) (hi : i < n + 1) (hj : j < n + 1) : Sq n (cutR j (rows.map (cutC i))) := by
  refine ⟨?_, fun r hr => ?_⟩
  · unfold cutR
    rw [List.length_append, List.length_take, List.length_drop, List.length_map, h.len]
    omega
  · have hm : r ∈ rows.map (cutC i) := by
      unfold cutR at hr
      rcases List.mem_append.mp hr with q | q
      · exact List.mem_of_mem_take q
      · exact List.mem_of_mem_drop q
    obtain ⟨a, ha, rfl⟩ := List.mem_map.mp hm
    exact cutC_len (h.wid a ha) hi
theorem szT_cut {a i j : Nat} {rows : List (List Int)} (h : SzT a rows) : SzT a (cutR j (rows.map (cutC i))) := fun r hr z hz => by
  have hm : r ∈ rows.map (cutC i) := by
    unfold cutR at hr
    rcases List.mem_append.mp hr with q | q
    · exact List.mem_of_mem_take q
    · exact List.mem_of_mem_drop q
  obtain ⟨b, hb, rfl⟩ := List.mem_map.mp hm
  rcases List.mem_append.mp hz with q | q
  · exact h b hb z (List.mem_of_mem_take q)
  · exact h b hb z (List.mem_of_mem_drop q)
theorem detL_bd {n b : Nat} {rows : List (List Int)} (h : Sq n rows) (hn : n ≤ 64) (s : SzT b rows) : Bd (n * (b + 66) + 1) (detL rows) := by
  have e : detL rows = detF n rows := by rw [detL, h.len]
  rw [e]
  exact detF_bd h hn s
theorem restC_eq {rows : List (List Int)} {j : Nat} {f : List Int → D} (h : ∀ a, f a = li (cutC j a)) : rows.map f = (rows.map (cutC j)).map li := by
  rw [List.map_map]
  exact List.map_congr_left fun a _ => h a
theorem range_sn {α : Type} {f : Nat → α} (k : Nat) : (List.range (k + 1)).map f = (List.range k).map f ++ [f k] := by
  rw [List.range_succ, List.map_append]
  rfl
theorem rest2_eq {rows : List (List Int)} {i j i' j' : Nat} (hi : i' = i + 1) (hj : j' = j + 1) :
    D.lst ((rows.take j).map (fun a => D.lst ((a.take i).map D.int ++ (a.drop i').map D.int)) ++ (rows.drop j').map fun a => D.lst ((a.take i).map D.int ++ (a.drop i').map D.int)) = lli (cutR j (rows.map (cutC i))) := by
  subst hi hj
  have e : (fun a : List Int => D.lst ((a.take i).map D.int ++ (a.drop (i + 1)).map D.int)) = fun a => li (cutC i a) := by
    funext a
    show _ = D.lst ((cutC i a).map D.int)
    unfold cutC
    rw [List.map_append]
  rw [e]
  unfold cutR lli
  rw [List.map_append, ← List.map_take, ← List.map_drop, List.map_map, List.map_map]
  rfl
end DL
set_option Elab.async false
set_option linter.all false
set_option maxRecDepth 100000
/-! MH: sums by places; a table's inverse and its updates. -/
namespace DL
open PySem PySem.Spec L2
open PyProof.Rows hiding St
def sm (n : Nat) (f : Nat → Int) : Int := ((List.range n).map f).sum
section
variable {n k : Nat} {f g : Nat → Int} {c : Int}
theorem sm_zero : sm 0 f = 0 := rfl
theorem sm_succ : sm (n + 1) f = sm n f + f n := sum_snoc n
theorem sm_congr : ∀ {n : Nat}, (∀ i, i < n → f i = g i) → sm n f = sm n g
  | 0, _ => rfl
  | n + 1, h => by rw [sm_succ, sm_succ, sm_congr (n := n) fun i hi => h i (by omega), h n (by omega)]
theorem sm_add : ∀ {n : Nat}, sm n (fun i => f i + g i) = sm n f + sm n g
  | 0 => rfl
  | n + 1 => by rw [sm_succ, sm_succ, sm_succ, sm_add (n := n)]; omega
theorem sm_sub : ∀ {n : Nat}, sm n (fun i => f i - g i) = sm n f - sm n g
  | 0 => rfl
  | n + 1 => by rw [sm_succ, sm_succ, sm_succ, sm_sub (n := n)]; omega
theorem sm_mul : ∀ {n : Nat}, sm n (fun i => c * f i) = c * sm n f
  | 0 => by simp [sm]
  | n + 1 => by rw [sm_succ, sm_succ, sm_mul (n := n), Int.mul_add]
theorem sm_mulR : ∀ {n : Nat}, sm n (fun i => f i * c) = sm n f * c
  | 0 => by simp [sm]
  | n + 1 => by rw [sm_succ, sm_succ, sm_mulR (n := n), Int.add_mul]
theorem sm_swap {f : Nat → Nat → Int} : ∀ {n : Nat}, sm n (fun i => sm k (fun j => f i j)) = sm k (fun j => sm n (fun i => f i j))
  | 0 => by
    have : sm k (fun j => sm 0 (fun i => f i j)) = sm k fun _ => 0 * 0 := sm_congr fun _ _ => rfl
    rw [this, sm_mul]
    simp [sm]
  | n + 1 => by
    rw [sm_succ, sm_swap (n := n), ← sm_add]
    exact sm_congr fun j _ => sm_succ.symm
end
def dlt (i j : Nat) : Int := if i = j then 1 else 0
theorem sm_dlt {f : Nat → Int} {i : Nat} : ∀ {n : Nat}, sm n (fun j => dlt i j * f j) = if i < n then f i else 0
  | 0 => rfl
  | n + 1 => by
    rw [sm_succ, sm_dlt (n := n)]
    unfold dlt
    by_cases h : i = n
    · subst h
      simp
    · rw [if_neg h]
      by_cases h2 : i < n
      · rw [if_pos h2, if_pos (by omega)]
        omega
      · rw [if_neg h2, if_neg (by omega)]
        simp
theorem dlt_comm {i j : Nat} : dlt i j = dlt j i := by
  unfold dlt
  by_cases h : i = j
  · rw [if_pos h, if_pos h.symm]
  · rw [if_neg h, if_neg (fun e => h e.symm)]
/-- R over o is the inverse of A over q -/
structure InvF (n : Nat) (A : Nat → Nat → Int) (q : Int) (R : Nat → Nat → Int) (o : Int) : Prop where
  l : ∀ i k, i < n → k < n → sm n (fun j => A i j * R j k) = q * o * dlt i k
  r : ∀ i k, i < n → k < n → sm n (fun j => R i j * A j k) = q * o * dlt i k
section
variable {n : Nat} {A R A' R' : Nat → Nat → Int} {q o : Int}
theorem InvF.congr (h : InvF n A q R o) (ha : ∀ i j, i < n → j < n → A' i j = A i j) (hr : ∀ i j, i < n → j < n → R' i j = R i j) : InvF n A' q R' o :=
  ⟨fun i k hi hk => by rw [← h.l i k hi hk]; exact sm_congr fun j hj => by rw [ha i j hi hj, hr j k hj hk],
   fun i k hi hk => by rw [← h.r i k hi hk]; exact sm_congr fun j hj => by rw [ha j k hj hk, hr i j hi hj]⟩
/-- both numbers of the grid times g -/
theorem InvF.red {g : Int} (hg : g ≠ 0) (h : InvF n A q (fun i j => g * R i j) (g * o)) : InvF n A q R o := by
  refine ⟨fun i k hi hk => ?_, fun i k hi hk => ?_⟩
  · have e := h.l i k hi hk
    rw [show sm n (fun j => A i j * (g * R j k)) = g * sm n fun j => A i j * R j k by rw [← sm_mul]; exact sm_congr fun j _ => by ac_rfl] at e
    exact Int.eq_of_mul_eq_mul_left hg (by rw [e]; ac_rfl)
  · have e := h.r i k hi hk
    rw [show sm n (fun j => g * R i j * A j k) = g * sm n fun j => R i j * A j k by rw [← sm_mul]; exact sm_congr fun j _ => by ac_rfl] at e
    exact Int.eq_of_mul_eq_mul_left hg (by rw [e]; ac_rfl)
/-- both numbers of the table times g -/
theorem InvF.scale {g : Int} (h : InvF n A q R o) : InvF n (fun i j => g * A i j) (g * q) R o := by
  refine ⟨fun i k hi hk => ?_, fun i k hi hk => ?_⟩
  · rw [show sm n (fun j => g * A i j * R j k) = g * sm n fun j => A i j * R j k by rw [← sm_mul]; exact sm_congr fun j _ => by ac_rfl, h.l i k hi hk]
    ac_rfl
  · rw [show sm n (fun j => R i j * (g * A j k)) = g * sm n fun j => R i j * A j k by rw [← sm_mul]; exact sm_congr fun j _ => by ac_rfl, h.r i k hi hk]
    ac_rfl
theorem InvF.unscale {g : Int} (hg : g ≠ 0) (h : InvF n (fun i j => g * A i j) (g * q) R o) : InvF n A q R o := by
  refine ⟨fun i k hi hk => ?_, fun i k hi hk => ?_⟩
  · have e := h.l i k hi hk
    rw [show sm n (fun j => g * A i j * R j k) = g * sm n fun j => A i j * R j k by rw [← sm_mul]; exact sm_congr fun j _ => by ac_rfl] at e
    exact Int.eq_of_mul_eq_mul_left hg (by rw [e]; ac_rfl)
  · have e := h.r i k hi hk
    rw [show sm n (fun j => R i j * (g * A j k)) = g * sm n fun j => R i j * A j k by rw [← sm_mul]; exact sm_congr fun j _ => by ac_rfl] at e
    exact Int.eq_of_mul_eq_mul_left hg (by rw [e]; ac_rfl)
/-! the update by a row x with the weight t / d -/
abbrev imgF (n : Nat) (R : Nat → Nat → Int) (x : Nat → Int) (i : Nat) : Int := sm n fun j => R i j * x j
abbrev wrtF (n : Nat) (R : Nat → Nat → Int) (x : Nat → Int) : Int := sm n fun i => x i * imgF n R x i
abbrev chgF (n : Nat) (R : Nat → Nat → Int) (o : Int) (x : Nat → Int) (t d : Int) : Int := d * o + t * wrtF n R x
theorem InvF.update (h : InvF n A q R o) (sy : ∀ i j, i < n → j < n → R i j = R j i) {x : Nat → Int} {t d e c : Int} (hc : c = chgF n R o x t d) :
    InvF n (fun i j => A i j * d + q * t * x i * x j) (q * d) (fun i j => e * (c * R i j - t * imgF n R x i * imgF n R x j)) (o * (e * c)) := by
  have ay : ∀ i, i < n → sm n (fun j => A i j * imgF n R x j) = q * o * x i := fun i hi => by
    have e1 : sm n (fun j => A i j * imgF n R x j) = sm n fun j => sm n fun l => A i j * R j l * x l := sm_congr fun j _ => by
      rw [imgF, ← sm_mul]
      exact sm_congr fun l _ => by ac_rfl
    rw [e1, sm_swap]
    have e2 : sm n (fun l => sm n fun j => A i j * R j l * x l) = sm n fun l => dlt i l * (q * o * x l) := sm_congr fun l hl => by
      rw [sm_mulR, h.l i l hi hl]
      ac_rfl
    rw [e2, sm_dlt, if_pos hi]
  have ya : ∀ k, k < n → sm n (fun j => imgF n R x j * A j k) = q * o * x k := fun k hk => by
    have e1 : sm n (fun j => imgF n R x j * A j k) = sm n fun j => sm n fun l => R l j * A j k * x l := sm_congr fun j hj => by
      rw [imgF, ← sm_mulR]
      exact sm_congr fun l hl => by
        rw [sy j l hj hl]
        ac_rfl
    rw [e1, sm_swap]
    have e2 : sm n (fun l => sm n fun j => R l j * A j k * x l) = sm n fun l => dlt k l * (q * o * x l) := sm_congr fun l hl => by
      rw [sm_mulR, h.r l k hl hk, dlt_comm]
      ac_rfl
    rw [e2, sm_dlt, if_pos hk]
  have xr : ∀ k, k < n → sm n (fun j => x j * R j k) = imgF n R x k := fun k hk => sm_congr fun j hj => by
    rw [sy j k hj hk]
    ac_rfl
  have key : c - d * o - t * wrtF n R x = 0 := by rw [hc]; unfold chgF; omega
  refine ⟨fun i k hi hk => ?_, fun i k hi hk => ?_⟩
  · have e1 : sm n (fun j => (A i j * d + q * t * x i * x j) * (e * (c * R j k - t * imgF n R x j * imgF n R x k))) =
        sm n fun j => (e * d * c) * (A i j * R j k) + (-(e * d * t * imgF n R x k)) * (A i j * imgF n R x j) + ((e * q * t * x i * c) * (x j * R j k) + (-(e * q * t * x i * t * imgF n R x k)) * (x j * imgF n R x j)) := sm_congr fun j _ => by grind
    rw [e1, sm_add, sm_add, sm_add, sm_mul, sm_mul, sm_mul, sm_mul, h.l i k hi hk, ay i hi, xr k hk]
    have e2 : sm n (fun j => x j * imgF n R x j) = wrtF n R x := rfl
    rw [e2]
    generalize imgF n R x k = y at *
    generalize wrtF n R x = w at *
    have e3 : e * d * c * (q * o * dlt i k) + -(e * d * t * y) * (q * o * x i) + (e * q * t * x i * c * y + -(e * q * t * x i * t * y) * w) = q * d * (o * (e * c)) * dlt i k + e * q * t * x i * y * (c - d * o - t * w) := by grind
    rw [e3, key, Int.mul_zero, Int.add_zero]
  · have e1 : sm n (fun j => (e * (c * R i j - t * imgF n R x i * imgF n R x j)) * (A j k * d + q * t * x j * x k)) =
        sm n fun j => (e * d * c) * (R i j * A j k) + (-(e * d * t * imgF n R x i)) * (imgF n R x j * A j k) + ((e * q * t * x k * c) * (R i j * x j) + (-(e * q * t * x k * t * imgF n R x i)) * (x j * imgF n R x j)) := sm_congr fun j _ => by grind
    rw [e1, sm_add, sm_add, sm_add, sm_mul, sm_mul, sm_mul, sm_mul, h.r i k hi hk, ya k hk]
    have e2 : sm n (fun j => x j * imgF n R x j) = wrtF n R x := rfl
    have e2' : sm n (fun j => R i j * x j) = imgF n R x i := rfl
    rw [e2, e2']
    generalize imgF n R x i = y at *
    generalize wrtF n R x = w at *
    have e3 : e * d * c * (q * o * dlt i k) + -(e * d * t * y) * (q * o * x k) + (e * q * t * x k * c * y + -(e * q * t * x k * t * y) * w) = q * d * (o * (e * c)) * dlt i k + e * q * t * x k * y * (c - d * o - t * w) := by grind
    rw [e3, key, Int.mul_zero, Int.add_zero]
/-- the changed number of the way back -/
theorem chg_back {x : Nat → Int} {t d e c : Int} (hc : c = chgF n R o x t d) :
    chgF n (fun i j => e * (c * R i j - t * imgF n R x i * imgF n R x j)) (o * (e * c)) x (-t) d = e * (d * o) * (d * o) := by
  have iy : ∀ i, imgF n (fun i j => e * (c * R i j - t * imgF n R x i * imgF n R x j)) x i = e * d * o * imgF n R x i := fun i => by
    have e1 : imgF n (fun i j => e * (c * R i j - t * imgF n R x i * imgF n R x j)) x i = sm n fun j => (e * c) * (R i j * x j) + (-(e * t * imgF n R x i)) * (x j * imgF n R x j) := sm_congr fun j _ => by grind
    rw [e1, sm_add, sm_mul, sm_mul]
    have e2 : sm n (fun j => x j * imgF n R x j) = wrtF n R x := rfl
    have e2' : sm n (fun j => R i j * x j) = imgF n R x i := rfl
    rw [e2, e2', hc]
    unfold chgF
    generalize imgF n R x i = y at *
    generalize wrtF n R x = w at *
    grind
  have wy : wrtF n (fun i j => e * (c * R i j - t * imgF n R x i * imgF n R x j)) x = e * d * o * wrtF n R x := by
    have e1 : wrtF n (fun i j => e * (c * R i j - t * imgF n R x i * imgF n R x j)) x = sm n fun i => e * d * o * (x i * imgF n R x i) := sm_congr fun i _ => by
      show x i * imgF n _ x i = _
      rw [iy]
      ac_rfl
    rw [e1, sm_mul]
  show d * (o * (e * c)) + -t * wrtF n _ x = _
  rw [wy, hc]
  unfold chgF
  generalize wrtF n R x = w at *
  grind
end
/-! ### by lists -/
theorem zip_range : ∀ {xs ys : List Int} {n : Nat}, xs.length = n → ys.length = n → (xs.zip ys) = (List.range n).map fun j => (xs[j]!, ys[j]!) := by
  intro xs ys n hx hy
  refine List.ext_getElem (by simp [hx, hy]) fun i h1 h2 => ?_
  have l1 : i < xs.length := by simp [hx, hy] at h1; omega
  have l2 : i < ys.length := by simp [hx, hy] at h1; omega
  simp [l1, l2]
theorem dot_sm {xs ys : List Int} {n : Nat} (hx : xs.length = n) (hy : ys.length = n) : dot xs ys = sm n fun j => xs[j]! * ys[j]! := by
  unfold dot sm
  rw [zip_range hx hy, List.map_map]
  rfl
theorem zipR_range : ∀ {xs : List Int} {rows : List (List Int)} {n : Nat}, xs.length = n → rows.length = n → (xs.zip rows) = (List.range n).map fun j => (xs[j]!, rows[j]!) := by
  intro xs ys n hx hy
  refine List.ext_getElem (by simp [hx, hy]) fun i h1 h2 => ?_
  have l1 : i < xs.length := by simp [hx, hy] at h1; omega
  have l2 : i < ys.length := by simp [hx, hy] at h1; omega
  simp [l1, l2]
abbrev at0 (x : List Int) (i : Nat) : Int := x[i]!
theorem formV_wrt {rows : List (List Int)} {x : List Int} {n : Nat} (sq : Sq n rows) (hx : x.length = n) : formV rows x x = wrtF n (ce rows) (at0 x) := by
  unfold formV wrtF
  rw [zipR_range hx sq.len, List.map_map]
  exact sm_congr fun i hi => by
    show x[i]! * dot rows[i]! x = _
    rw [dot_sm (sq.row hi) hx]
theorem img_dot {rows : List (List Int)} {x : List Int} {n i : Nat} (sq : Sq n rows) (hx : x.length = n) (hi : i < n) : dot rows[i]! x = imgF n (ce rows) (at0 x) i := dot_sm (sq.row hi) hx
theorem map_at {α β : Type} [Inhabited α] [Inhabited β] {l : List α} {f : α → β} {i : Nat} (h : i < l.length) : (l.map f)[i]! = f l[i]! := by
  rw [getElem!_pos (l.map f) i (by simpa using h), getElem!_pos l i h, List.getElem_map]
theorem ce_map {rows : List (List Int)} {f : List Int → List Int} {i k : Nat} (h : i < rows.length) : ce (rows.map f) i k = (f rows[i]!)[k]! := by
  unfold ce
  rw [map_at h]
theorem range_at' {β : Type} [Inhabited β] {n i : Nat} {f : Nat → β} (h : i < n) : ((List.range n).map f)[i]! = f i := by
  rw [getElem!_pos _ i (by simpa using h), List.getElem_map, List.getElem_range]
theorem ce_red {rows : List (List Int)} {g n : Nat} {i k : Nat} (sq : Sq n rows) (hi : i < n) (hk : k < n) : ce (redR rows g) i k = ce rows i k / (g : Int) := by
  have e : ce (redR rows g) i k = ((rows[i]!).map fun x => x / (g : Int))[k]! := ce_map (by rw [sq.len]; exact hi)
  rw [e, map_at (by rw [sq.row hi]; exact hk)]
theorem sq_red {rows : List (List Int)} {n g : Nat} (sq : Sq n rows) : Sq n (redR rows g) := ⟨by rw [redR_len, sq.len], fun r hr => by
  obtain ⟨a, ha, rfl⟩ := List.mem_map.mp hr
  rw [List.length_map]
  exact sq.wid a ha⟩
theorem gcv_ce {rows : List (List Int)} {over : Int} {n i k : Nat} (sq : Sq n rows) (hi : i < n) (hk : k < n) : (gcv rows over : Int) * ce (redR rows (gcv rows over)) i k = ce rows i k := by
  rw [ce_red sq hi hk]
  exact Int.mul_ediv_cancel' (gcv_dvd.2 _ (mem_at (by rw [sq.len]; exact hi)) _ (ce_mem sq hi hk))
theorem gcv_over {rows : List (List Int)} {over : Int} : (gcv rows over : Int) * (over / (gcv rows over : Int)) = over := Int.mul_ediv_cancel' gcv_dvd.1
/-- the grid made of rows over a number is an inverse as these are -/
theorem InvF.made {n : Nat} {A : Nat → Nat → Int} {q over : Int} {rows : List (List Int)} (sq : Sq n rows) (op : 0 < over) (h : InvF n A q (ce rows) over) : InvF n A q (ce (redR rows (gcv rows over))) (over / (gcv rows over : Int)) := by
  have gp := gcv_pos (rows := rows) op
  refine InvF.red (g := (gcv rows over : Int)) (by omega) ?_
  rw [gcv_over]
  exact h.congr (fun _ _ _ _ => rfl) fun i j hi hj => gcv_ce sq hi hj
end DL
set_option Elab.async false
set_option linter.all false
set_option maxRecDepth 100000
/-! MI: small tables: the inverse by cofactors, determinants of changed tables. -/
namespace DL
open PySem PySem.Spec L2
open PyProof.Rows hiding St
theorem sg1 : sg 1 = -1 := rfl
theorem sg2 : sg 2 = 1 := rfl
theorem det_nil {n : Nat} {rows : List (List Int)} (h : rows = []) : detL rows = 1 := by rw [h]; rfl
/-! explicit forms -/
theorem cof1 {a : Int} : cof [[a]] 0 0 = 1 := rfl
theorem due1 {a over : Int} : dueR [[a]] over = [[over * sgd a]] := by
  simp [dueR, dueL, dueE, sg, det1, cof, cutR, cutC, det0]
theorem due2 {a b c d over : Int} : dueR [[a, b], [c, d]] over = (let s := over * sgd (detL [[a, b], [c, d]]); [[s * d, -(s * b)], [-(s * c), s * a]]) := by
  simp [dueR, dueL, dueE, sg, cof, cutR, cutC, List.range, List.range.loop, det1]
  grind
theorem due3 {a b c d e f g k l over : Int} : dueR [[a, b, c], [d, e, f], [g, k, l]] over = (let s := over * sgd (detL [[a, b, c], [d, e, f], [g, k, l]]);
    [[s * (e * l - f * k), -(s * (b * l - c * k)), s * (b * f - c * e)], [-(s * (d * l - f * g)), s * (a * l - c * g), -(s * (a * f - c * d))], [s * (d * k - e * g), -(s * (a * k - b * g)), s * (a * e - b * d)]]) := by
  simp [dueR, dueL, dueE, sg, cof, cutR, cutC, List.range, List.range.loop, det2]
  grind
theorem sgd_mul {v : Int} : sgd v * v = (v.natAbs : Int) := by
  unfold sgd
  split <;> omega
theorem sgd_sq {v : Int} : sgd v * sgd v = 1 := by
  unfold sgd
  split <;> rfl
theorem sgd_abs {v : Int} : sgd v * (v.natAbs : Int) = v := by
  unfold sgd
  split <;> omega
theorem sgd_ne {v : Int} : sgd v ≠ 0 := by
  unfold sgd
  split <;> decide
theorem lt1 {i : Nat} (h : i < 1) : i = 0 := by omega
theorem lt2 {i : Nat} (h : i < 2) : i = 0 ∨ i = 1 := by omega
theorem lt3 {i : Nat} (h : i < 3) : i = 0 ∨ i = 1 ∨ i = 2 := by omega
theorem dueR_sq {n : Nat} {rows : List (List Int)} {over : Int} (sq : Sq n rows) : Sq n (dueR rows over) := by
  refine ⟨by rw [dueR, List.length_map, List.length_range, sq.len], fun r hr => ?_⟩
  obtain ⟨i, _, rfl⟩ := List.mem_map.mp hr
  rw [dueL, List.length_map, List.length_range, sq.len]
theorem due_inv {n : Nat} (hn : n ≤ 3) {rows : List (List Int)} {over : Int} (sq : Sq n rows) : InvF n (ce rows) over (ce (dueR rows over)) ((detL rows).natAbs : Int) := by
  match n, hn with
  | 0, _ => exact ⟨fun i k hi => absurd hi (Nat.not_lt_zero _), fun i k hi => absurd hi (Nat.not_lt_zero _)⟩
  | 1, _ =>
    obtain ⟨a, rfl⟩ := sq1 sq
    have e := sgd_mul (v := a)
    refine ⟨fun i k hi hk => ?_, fun i k hi hk => ?_⟩ <;> rw [lt1 hi, lt1 hk, due1, det1] <;> simp [sm, List.range, List.range.loop, dlt, ce] <;> grind
  | 2, _ =>
    obtain ⟨a, b, c, d, rfl⟩ := sq2 sq
    have e := sgd_mul (v := detL [[a, b], [c, d]])
    rw [due2]
    generalize sgd (detL [[a, b], [c, d]]) = z at *
    generalize ((detL [[a, b], [c, d]]).natAbs : Int) = o at *
    rw [det2] at e
    subst e
    refine ⟨fun i k hi hk => ?_, fun i k hi hk => ?_⟩ <;> rcases lt2 hi with rfl | rfl <;> rcases lt2 hk with rfl | rfl <;> simp [sm, List.range, List.range.loop, dlt, ce] <;> grind
  | 3, _ =>
    obtain ⟨a, b, c, d, e, f, g, k, l, rfl⟩ := sq3 sq
    have h := sgd_mul (v := detL [[a, b, c], [d, e, f], [g, k, l]])
    rw [due3]
    generalize sgd (detL [[a, b, c], [d, e, f], [g, k, l]]) = z at *
    generalize ((detL [[a, b, c], [d, e, f], [g, k, l]]).natAbs : Int) = o at *
    rw [det3] at h
    subst h
    refine ⟨fun i k hi hk => ?_, fun i k hi hk => ?_⟩ <;> rcases lt3 hi with rfl | rfl | rfl <;> rcases lt3 hk with rfl | rfl | rfl <;> simp [sm, List.range, List.range.loop, dlt, ce] <;> grind
theorem due_sym {n : Nat} (hn : n ≤ 3) {rows : List (List Int)} {over : Int} (sq : Sq n rows) (sy : SymR n rows) : SymR n (dueR rows over) := by
  match n, hn with
  | 0, _ => exact fun i k hi => absurd hi (Nat.not_lt_zero _)
  | 1, _ => exact fun i k hi hk => by rw [lt1 hi, lt1 hk]
  | 2, _ =>
    obtain ⟨a, b, c, d, rfl⟩ := sq2 sq
    have h1 : b = c := by simpa [ce] using sy 0 1 (by decide) (by decide)
    subst h1
    rw [due2]
    intro i k hi hk
    rcases lt2 hi with rfl | rfl <;> rcases lt2 hk with rfl | rfl <;> simp [ce]
  | 3, _ =>
    obtain ⟨a, b, c, d, e, f, g, k, l, rfl⟩ := sq3 sq
    have h1 : b = d := by simpa [ce] using sy 0 1 (by decide) (by decide)
    have h2 : c = g := by simpa [ce] using sy 0 2 (by decide) (by decide)
    have h3 : f = k := by simpa [ce] using sy 1 2 (by decide) (by decide)
    subst h1 h2 h3
    rw [due3]
    intro i k hi hk
    rcases lt3 hi with rfl | rfl | rfl <;> rcases lt3 hk with rfl | rfl | rfl <;> simp [ce] <;> grind
/-- rows with s x x added -/
def chgR (rows : List (List Int)) (d s : Int) (x : List Int) : List (List Int) := (List.range rows.length).map fun i => (List.range x.length).map fun j => ce rows i j * d + s * x[i]! * x[j]!
theorem chgR_sq {n : Nat} {rows : List (List Int)} {d s : Int} {x : List Int} (sq : Sq n rows) (hx : x.length = n) : Sq n (chgR rows d s x) := by
  refine ⟨by rw [chgR, List.length_map, List.length_range, sq.len], fun r hr => ?_⟩
  obtain ⟨i, _, rfl⟩ := List.mem_map.mp hr
  rw [List.length_map, List.length_range, hx]
theorem chgR_ce {n i j : Nat} {rows : List (List Int)} {d s : Int} {x : List Int} (sq : Sq n rows) (hx : x.length = n) (hi : i < n) (hj : j < n) : ce (chgR rows d s x) i j = ce rows i j * d + s * x[i]! * x[j]! := by
  unfold chgR
  show (((List.range rows.length).map _)[i]!)[j]! = _
  rw [range_at' (by rw [sq.len]; exact hi), range_at' (by rw [hx]; exact hj)]
/-- the determinant of what is changed: by the worth of x in the inverse -/
theorem chg_det {n : Nat} (hn : n ≤ 3) {rows : List (List Int)} {d t over : Int} {x : List Int} (sq : Sq n rows) (hx : x.length = n) :
    detL (chgR rows d (over * t) x) * d * ((detL rows).natAbs : Int) = d ^ n * detL rows * (d * ((detL rows).natAbs : Int) + t * wrtF n (ce (dueR rows over)) (at0 x)) := by
  match n, hn with
  | 0, _ =>
    rw [sq0 sq]
    simp [chgR, detL, detF, sm, wrtF]
  | 1, _ =>
    obtain ⟨a, rfl⟩ := sq1 sq
    obtain ⟨x, rfl⟩ := len1 hx
    have e := sgd_mul (v := a)
    rw [due1]
    simp [chgR, det1, sm, List.range, List.range.loop, ce]
    generalize sgd a = z at *
    grind
  | 2, _ =>
    obtain ⟨a, b, c, e, rfl⟩ := sq2 sq
    obtain ⟨x, y, rfl⟩ := len2 hx
    have h := sgd_mul (v := detL [[a, b], [c, e]])
    have h2 := sgd_sq (v := detL [[a, b], [c, e]])
    rw [due2]
    generalize sgd (detL [[a, b], [c, e]]) = z at *
    generalize ((detL [[a, b], [c, e]]).natAbs : Int) = o at *
    subst h
    simp [chgR, sm, List.range, List.range.loop, ce, det2]
    grind
  | 3, _ =>
    obtain ⟨a, b, c, e, f, g, k, l, p, rfl⟩ := sq3 sq
    obtain ⟨x, y, u, rfl⟩ := len3 hx
    have h := sgd_mul (v := detL [[a, b, c], [e, f, g], [k, l, p]])
    have h2 := sgd_sq (v := detL [[a, b, c], [e, f, g], [k, l, p]])
    rw [due3]
    generalize sgd (detL [[a, b, c], [e, f, g], [k, l, p]]) = z at *
    generalize ((detL [[a, b, c], [e, f, g], [k, l, p]]).natAbs : Int) = o at *
    subst h
    simp [chgR, sm, List.range, List.range.loop, ce, det3]
    grind
end DL
set_option Elab.async false
set_option linter.all false
set_option maxRecDepth 100000
/-! MF: Euclid's turns, counted by Fibonacci's numbers. -/
namespace DL
def fibp : Nat → Nat × Nat
  | 0 => (0, 1)
  | n + 1 => ((fibp n).2, (fibp n).1 + (fibp n).2)
def fb (n : Nat) : Nat := (fibp n).1
theorem fb_two (n : Nat) : fb (n + 2) = fb n + fb (n + 1) := rfl
/-- k turns from (.., b): (u, v) -/
def EuF (b k u v : Nat) : Prop := (k = 0 ∧ v = b) ∨ (∃ j, k = j + 1 ∧ v < u ∧ fb (j + 1) * u + fb j * v ≤ b)
theorem EuF.step {b k u v : Nat} (h : EuF b k u v) (hv : 0 < v) : EuF b (k + 1) v (u % v) := by
  have hm := Nat.mod_lt u hv
  rcases h with ⟨rfl, rfl⟩ | ⟨j, rfl, lt, le⟩
  · refine .inr ⟨0, rfl, hm, ?_⟩
    show 1 * v + 0 * _ ≤ v
    omega
  · refine .inr ⟨j + 1, rfl, hm, ?_⟩
    have e := Nat.div_add_mod u v
    have q : 1 ≤ u / v := (Nat.one_le_div_iff hv).mpr (by omega)
    have q2 : v * 1 ≤ v * (u / v) := Nat.mul_le_mul_left _ q
    have q3 : v + u % v ≤ u := by omega
    have q4 : fb (j + 1) * (v + u % v) ≤ fb (j + 1) * u := Nat.mul_le_mul_left _ q3
    rw [show fb (j + 1 + 1) = fb j + fb (j + 1) from fb_two j]
    rw [Nat.mul_add] at q4
    rw [Nat.add_mul]
    omega
theorem fb_big : 2 ^ 1000 ≤ fb 1500 := by decide +kernel
theorem EuF.early {b u v : Nat} (h : EuF b 1500 u v) (hb : b < 2 ^ 1000) : False := by
  rcases h with ⟨h, _⟩ | ⟨j, e, lt, le⟩
  · exact absurd h (by decide)
  · obtain rfl : j = 1499 := by omega
    have h1 : fb 1500 * 1 ≤ fb 1500 * u := Nat.mul_le_mul_left _ (by omega)
    have h2 := fb_big
    have h3 : fb (1499 + 1) = fb 1500 := rfl
    rw [h3] at le
    omega
theorem fb_mono (n : Nat) : fb (n + 1) ≤ fb (n + 2) := by
  rw [fb_two n]
  omega
theorem fb_pow : ∀ L : Nat, 2 ^ L ≤ fb (2 * L + 2)
  | 0 => by decide
  | L + 1 => by
    have e : 2 * (L + 1) + 2 = (2 * L + 2) + 2 := by omega
    rw [e, fb_two]
    have h := fb_pow L
    have m := fb_mono (2 * L + 1)
    have m' : fb (2 * L + 2) ≤ fb (2 * L + 2 + 1) := m
    rw [Nat.pow_succ]
    omega
theorem EuF.earlyL {b L u v : Nat} (h : EuF b (2 * L + 2) u v) (hb : b < 2 ^ L) : False := by
  rcases h with ⟨h, _⟩ | ⟨j, e, lt, le⟩
  · omega
  · obtain rfl : j = 2 * L + 1 := by omega
    have h1 : fb (2 * L + 1 + 1) * 1 ≤ fb (2 * L + 1 + 1) * u := Nat.mul_le_mul_left _ (by omega)
    have h2 := fb_pow L
    have h3 : fb (2 * L + 1 + 1) = fb (2 * L + 2) := rfl
    omega
theorem bits_lt (i : Int) : i.natAbs < 2 ^ PySem.Builtin.Int.intBits i := by
  unfold PySem.Builtin.Int.intBits
  split
  · simp_all
  · exact Nat.lt_log2_self
end DL
set_option Elab.async false
set_option linter.all false
set_option maxRecDepth 100000
/-! DT: tables by a function of places; such tables while they are written. -/
namespace DL
open PySem PySem.Spec L2
open PyProof.Rows hiding St
def tabF (n : Nat) (f : Nat → Nat → Int) : List (List Int) := (List.range n).map fun i => (List.range n).map fun j => f i j
section
variable {n i j : Nat} {f g : Nat → Nat → Int} {rows : List (List Int)}
theorem tabF_sq : Sq n (tabF n f) := by
  refine ⟨by rw [tabF, List.length_map, List.length_range], fun r hr => ?_⟩
  obtain ⟨i, _, rfl⟩ := List.mem_map.mp hr
  rw [List.length_map, List.length_range]
theorem tabF_row (hi : i < n) : (tabF n f)[i]! = (List.range n).map fun j => f i j := range_at' hi
theorem tabF_ce (hi : i < n) (hj : j < n) : ce (tabF n f) i j = f i j := by
  unfold ce
  rw [tabF_row hi, range_at' hj]
theorem tabF_congr (h : ∀ i j, i < n → j < n → f i j = g i j) : tabF n f = tabF n g :=
  List.map_congr_left fun i hi => List.map_congr_left fun j hj => h i j (List.mem_range.mp hi) (List.mem_range.mp hj)
theorem map_range {α : Type} [Inhabited α] {l : List α} (h : l.length = n) : (List.range n).map (fun i => l[i]!) = l := by
  refine List.ext_getElem (by simp [h]) fun i h1 h2 => ?_
  simp [h2]
theorem tabF_of (sq : Sq n rows) : tabF n (ce rows) = rows := by
  have e : tabF n (ce rows) = (List.range n).map fun i => rows[i]! := List.map_congr_left fun i hi => map_range (sq.row (List.mem_range.mp hi))
  rw [e, map_range sq.len]
theorem szT_of {b : Nat} (sq : Sq n rows) (h : ∀ i j, i < n → j < n → Bd b (ce rows i j)) : SzT b rows := by
  intro r hr z hz
  obtain ⟨i, hi, e1⟩ := List.getElem_of_mem hr
  have hw := sq.wid r hr
  obtain ⟨j, hj, e2⟩ := List.getElem_of_mem hz
  have hi' : i < n := by rw [← sq.len]; exact hi
  have q := h i j hi' (by omega)
  unfold ce at q
  rw [getElem!_pos rows i hi, e1, getElem!_pos r j hj, e2] at q
  exact q
end
/-! ### while it is written -/
abbrev dRow (r : List Int) : List D := r.map D.int
def dR (rows : List (List Int)) : List (List D) := rows.map dRow
/-- a table at t, its rows at qs -/
structure TabP (pre : Mu) (t : Addr) (qs : List Addr) (n : Nat) (f : Nat → Nat → Int) (m0 m : Mu) : Prop where
  l : qs.length = n
  e : m = pre ++ matM t qs (dR (tabF n f)) m0
def set2 (f : Nat → Nat → Int) (i j : Nat) (v : Int) : Nat → Nat → Int := fun a b => if a = i ∧ b = j then v else f a b
theorem set_map {α β : Type} {l : List α} {f : α → β} {i : Nat} {v : α} : (l.set i v).map f = (l.map f).set i (f v) := by rw [List.map_set]
theorem tabF_set {n i j : Nat} {f : Nat → Nat → Int} {v : Int} (hi : i < n) (hj : j < n) : (tabF n f).set i (((tabF n f)[i]!).set j v) = tabF n (set2 f i j v) := by
  rw [tabF_row hi]
  refine List.ext_getElem (by simp [tabF]) fun a h1 h2 => ?_
  have ha : a < n := by simpa [tabF] using h2
  rw [List.getElem_set]
  by_cases e : i = a
  · subst e
    rw [if_pos rfl]
    simp only [tabF, List.getElem_map, List.getElem_range]
    refine List.ext_getElem (by simp) fun b h3 h4 => ?_
    rw [List.getElem_set]
    by_cases e2 : j = b
    · subst e2
      simp [set2]
    · rw [if_neg e2]
      have : ¬ b = j := fun z => e2 z.symm
      simp [set2, this]
  · rw [if_neg e]
    have : ¬ a = i := fun z => e z.symm
    simp [tabF, set2, this]
section
variable {W : WX} {E : ET} {r : Rho} {m m0 pre : Mu} {K : KT} {G : Gx} {t : Addr} {qs : List Addr} {n i j : Nat} {f : Nat → Nat → Int} {v : Int}
theorem dR_get (hi : i < n) : (dR (tabF n f))[i]? = some (dRow ((List.range n).map fun j => f i j)) := by
  simp [dR, tabF, hi]
theorem qs_get {qs : List Addr} (hi : i < qs.length) : qs[i]? = some qs[i]! := by
  rw [getElem!_pos qs i hi, List.getElem?_eq_getElem hi]
theorem w2_ixP (h : TabP pre t qs n f m0 m) (hi : i < n) (k : K (.ref qs[i]!) m) : W2 W E (oIx G) (.ref t) (.int (i : Nat)) r m K := by
  have e := h.e
  have l := h.l
  refine w2_ixM (d := .ref qs[i]!) (ds := qs.map .ref) (by rw [e]; exact At.appR at_matP) ⟨?_, k⟩
  refine atI_get ?_
  rw [List.getElem?_map, qs_get (by omega)]
  rfl
theorem w2_ixQ (h : TabP pre t qs n f m0 m) (hi : i < n) (hj : j < n) (k : K (.int (f i j)) m) : W2 W E (oIx G) (.ref qs[i]!) (.int (j : Nat)) r m K := by
  have e := h.e
  have l := h.l
  refine w2_ixM (d := .int (f i j)) (ds := dRow ((List.range n).map fun j => f i j)) (by rw [e]; exact At.appR (at_matR (qs_get (by omega)) (dR_get hi))) ⟨?_, k⟩
  refine atI_get ?_
  simp [dRow, hj]
theorem set_tab {N : Mu → Prop} (h : TabP pre t qs n f m0 m) (hi : i < n) (hj : j < n) (k : ∀ m3, TabP pre t qs n (set2 f i j v) m0 m3 → N m3) :
    ∃ p xs k' j' m3, D.ref qs[i]! = .ref p ∧ D.int (j : Nat) = .int k' ∧ At m p (.lst xs) ∧ ixN xs.length k' = some j' ∧ Put m p (.lst (xs.set j' (.int v))) m3 ∧ N m3 := by
  have e := h.e
  have l := h.l
  have key : (dR (tabF n f)).set i ((dRow ((List.range n).map fun j => f i j)).set j (.int v)) = dR (tabF n (set2 f i j v)) := by
    rw [← tabF_set hi hj, tabF_row hi]
    unfold dR
    rw [List.map_set]
    simp only [dRow, List.map_set]
  refine ⟨qs[i]!, dRow ((List.range n).map fun j => f i j), (j : Nat), j, pre ++ matM t qs (dR (tabF n (set2 f i j v))) m0, rfl, rfl, by rw [e]; exact At.appR (at_matR (qs_get (by omega)) (dR_get hi)), ?_, ?_, k _ ⟨l, rfl⟩⟩
  · unfold ixN
    rw [if_pos (by omega), if_pos (by simp; exact hj)]
    rfl
  · rw [e, ← key]
    exact Put.appR (put_matR (qs_get (by omega)) (by simp [dR, tabF, hi]))
theorem frz_tab (h : TabP pre t qs n f m0 m) : Frz m (.ref t) (lli (tabF n f)) := by
  have e := h.e
  have hl : qs.length = (dR (tabF n f)).length := by rw [h.l]; simp [dR, tabF]
  have : lli (tabF n f) = .lst ((dR (tabF n f)).map .lst) := by
    unfold dR
    rw [List.map_map]
    rfl
  rw [this]
  refine frz_in hl fun q hq => ?_
  rw [e]
  refine At.of_mem (List.mem_append_right _ ?_)
  rw [matM_eq]
  exact List.mem_append_left _ hq
/-- the pot on a table -/
theorem pot_tab {p : Addr} (l : qs.length = n) (h : PotM p (matM t qs (dR (tabF n f)) m0) m) : ∃ pre, TabP pre t qs n f m0 m ∧ ∀ f' m', TabP pre t qs n f' m0 m' → PotM p (matM t qs (dR (tabF n f')) m0) m' := by
  obtain ⟨cs, i, r, e, a, b, c⟩ := h
  exact ⟨[(p, _)], ⟨l, e⟩, fun f' m' h' => ⟨cs, i, r, h'.e, a, b, c⟩⟩
/-- a table made, the pot beneath it -/
theorem pot_over {p : Addr} {q : List (List D)} (h : PotM p m0 m) : ∃ m', (matM t qs q m).Perm m' ∧ PotM p (matM t qs q m0) m' := by
  obtain ⟨cs, i, r, e, a, b, c⟩ := h
  subst e
  exact ⟨_, perm_mat, cs, i, r, rfl, a, b, c⟩
theorem pot_under {p : Addr} {q : List (List D)} (h : PotM p (matM t qs q m0) m) : ∃ m', m.Perm (matO t qs q ++ m') ∧ PotM p m0 m' := by
  obtain ⟨cs, i, r, e, a, b, c⟩ := h
  subst e
  refine ⟨_, ?_, cs, i, r, rfl, a, b, c⟩
  rw [← matM_eq]
  exact perm_mat.symm
end
/-! ### ranges -/
def RngB (j : Int) : Prop := -(2 ^ 62) ≤ j ∧ j < 2 ^ 62
theorem rngB {j : Int} (h : j.natAbs ≤ 1000000) : RngB j := ⟨by omega, by omega⟩
structure RngA (j : Int) (K : Prop) : Prop where
  b : RngB j
  k : K
section
variable {W : WX} {E : ET} {r : Rho} {m : Mu} {KI : List D → List Addr → Mu → Prop} {ta : TA}
theorem ran_zero {n : Nat} : ran 0 n = (List.range n).map fun i : Nat => D.int (i : Int) := by
  unfold ran
  congr 1
  funext i
  rw [Int.zero_add]
theorem wi_rng1S (h : Wa W E ta r m fun ds m1 => ∃ j : Int, ds = [.int j] ∧ RngA j (KI ((List.range j.toNat).map fun i : Nat => D.int (i : Int)) [] m1)) : Wi W E (iRng1 ta) r m KI :=
  wi_rng1 (h.imp fun ds m1 ⟨j, e, b, k⟩ => ⟨j, e, b, by rw [ran_zero]; exact k⟩)
end
/-- [[0 for j in range(n)] for i in range(n)] -/
theorem we_zeroTab {W : WX} {E : ET} {r : Rho} {m : Mu} {K : KT} {s i j n : Nat} {vs vs' : List Nat} (hv : vs = [i]) (hv' : vs' = [j]) (hs : r[s]? = some (some (.int (n : Nat)))) (hi : i ≠ s) (hj : j ≠ s) (hn : n ≤ 1000)
    (k : ∀ t qs, qs.length = n → K (.ref t) (matM t qs (dR (tabF n fun _ _ => 0)) m)) :
    We W E (tLc (iRng1 (tCons (tVar s) tNil)) (gName i) tYes (tLc (iRng1 (tCons (tVar s) tNil)) (gName j) tYes (tC (.int 0)) vs') vs) r m K := by
  subst hv hv'
  have z : dRow ((List.range n).map fun _ => (0 : Int)) = (List.range n).map fun _ => D.int 0 := by
    unfold dRow
    rw [List.map_map]
    rfl
  have bl : Nat.ble (List.range n).length 100000 = true := Nat.ble_eq_true_of_le (by rw [List.length_range]; omega)
  refine we_lcMat (α := Nat) (fun i => .int (i : Int)) (fun _ => dRow ((List.range n).map fun _ => (0 : Int))) (gk_name (by simp)) (wi_rng1S (wa_cons (we_var hs (wa_nil ⟨_, rfl, ⟨rngB (by omega), ?_⟩⟩))))
  refine ⟨List.range n, rfl, bl, fun a _ own => wg_name ?_, fun t qs hq => ?_⟩
  · have hs2 : ((wipeR r [i]).set i (some (.int (a : Int))))[s]? = some (some (.int (n : Nat))) := by
      rw [List.getElem?_set_ne hi]
      show (r.set i none)[s]? = _
      rw [List.getElem?_set_ne hi, hs]
    refine we_lcM (α := Nat) (fun i => .int (i : Int)) (fun _ => D.int 0) (gk_name (by simp)) (wi_rng1S (wa_cons (we_var hs2 (wa_nil ⟨_, rfl, ⟨rngB (by omega), ?_⟩⟩))))
    refine ⟨List.range n, rfl, bl, fun b _ q => wg_name (we_cint ⟨rfl, rfl⟩), fun Dd _ => ⟨Dd, rfl, ?_⟩⟩
    rw [z]
  · have q := k t qs (by rw [hq, List.length_range])
    have e : dR (tabF n fun _ _ => 0) = (List.range n).map fun _ => dRow ((List.range n).map fun _ => (0 : Int)) := by
      unfold dR tabF
      rw [List.map_map]
      rfl
    rw [e] at q
    exact q
/-! ### determinants by a number more on the diagonal -/
def diaF (f : Nat → Nat → Int) (c : Int) : Nat → Nat → Int := fun a b => f a b + if a = b then c else 0
theorem tab1 {f : Nat → Nat → Int} : tabF 1 f = [[f 0 0]] := by simp [tabF]
theorem tab2 {f : Nat → Nat → Int} : tabF 2 f = [[f 0 0, f 0 1], [f 1 0, f 1 1]] := by simp [tabF, List.range, List.range.loop]
theorem tab3 {f : Nat → Nat → Int} : tabF 3 f = [[f 0 0, f 0 1, f 0 2], [f 1 0, f 1 1, f 1 2], [f 2 0, f 2 1, f 2 2]] := by simp [tabF, List.range, List.range.loop]
theorem dia_det {n : Nat} (hn : n ≤ 3) {f : Nat → Nat → Int} (h : ∀ c : Nat, c < n → detL (tabF n (diaF f c)) = 0) : detL (tabF n (diaF f n)) ≠ 0 := by
  match n, hn with
  | 0, _ => show (1 : Int) ≠ 0; decide
  | 1, _ =>
    have h0 := h 0 (by decide)
    rw [tab1, det1] at *
    simp [diaF] at *
    omega
  | 2, _ =>
    have h0 := h 0 (by decide)
    have h1 := h 1 (by decide)
    rw [tab2, det2] at *
    simp [diaF] at *
    intro z
    grind
  | 3, _ =>
    have h0 := h 0 (by decide)
    have h1 := h 1 (by decide)
    have h2 := h 2 (by decide)
    rw [tab3, det3] at *
    simp [diaF] at *
    intro z
    have key : (f 0 0 + 3) * ((f 1 1 + 3) * (f 2 2 + 3) - f 1 2 * f 2 1) - f 0 1 * (f 1 0 * (f 2 2 + 3) - f 1 2 * f 2 0) + f 0 2 * (f 1 0 * f 2 1 - (f 1 1 + 3) * f 2 0)
        - 3 * ((f 0 0 + 2) * ((f 1 1 + 2) * (f 2 2 + 2) - f 1 2 * f 2 1) - f 0 1 * (f 1 0 * (f 2 2 + 2) - f 1 2 * f 2 0) + f 0 2 * (f 1 0 * f 2 1 - (f 1 1 + 2) * f 2 0))
        + 3 * ((f 0 0 + 1) * ((f 1 1 + 1) * (f 2 2 + 1) - f 1 2 * f 2 1) - f 0 1 * (f 1 0 * (f 2 2 + 1) - f 1 2 * f 2 0) + f 0 2 * (f 1 0 * f 2 1 - (f 1 1 + 1) * f 2 0))
        - (f 0 0 * (f 1 1 * f 2 2 - f 1 2 * f 2 1) - f 0 1 * (f 1 0 * f 2 2 - f 1 2 * f 2 0) + f 0 2 * (f 1 0 * f 2 1 - f 1 1 * f 2 0)) = 6 := by grind
    rw [z, h0, h1, h2] at key
    exact absurd key (by decide)
/-! ### sizes of small ones -/
theorem det_bd3 {n b : Nat} (hn : n ≤ 3) {rows : List (List Int)} (sq : Sq n rows) (s : SzT b rows) : Bd (3 * b + 3) (detL rows) := by
  match n, hn with
  | 0, _ =>
    rw [sq0 sq]
    exact (show Bd 1 (detL []) from bd_lit (by decide)).mono (by omega)
  | 1, _ =>
    obtain ⟨a, rfl⟩ := sq1 sq
    rw [det1]
    exact (s [a] (by simp) a (by simp)).mono (by omega)
  | 2, _ =>
    obtain ⟨a, b, c, d, rfl⟩ := sq2 sq
    rw [det2]
    have S : ∀ z ∈ [a, b, c, d], Bd _ z := fun z hz => by
      simp only [List.mem_cons, List.not_mem_nil, or_false] at hz
      rcases hz with rfl | rfl | rfl | rfl
      · exact s _ (.head _) _ (by simp)
      · exact s _ (.head _) _ (by simp)
      · exact s _ (.tail _ (.head _)) _ (by simp)
      · exact s _ (.tail _ (.head _)) _ (by simp)
    exact (((S a (by simp)).mul (S d (by simp))).sub ((S b (by simp)).mul (S c (by simp)))).mono (by omega)
  | 3, _ =>
    obtain ⟨a, b, c, d, e, f, g, k, l, rfl⟩ := sq3 sq
    rw [det3]
    have S : ∀ r ∈ [[a, b, c], [d, e, f], [g, k, l]], ∀ z ∈ r, Bd _ z := s
    have sa := S _ (.head _) a (by simp)
    have sb := S _ (.head _) b (by simp)
    have sc := S _ (.head _) c (by simp)
    have sd := S _ (.tail _ (.head _)) d (by simp)
    have se := S _ (.tail _ (.head _)) e (by simp)
    have sf := S _ (.tail _ (.head _)) f (by simp)
    have sg := S _ (.tail _ (.tail _ (.head _))) g (by simp)
    have sk := S _ (.tail _ (.tail _ (.head _))) k (by simp)
    have sl := S _ (.tail _ (.tail _ (.head _))) l (by simp)
    exact ((((sa.mul ((se.mul sl).sub (sf.mul sk)))).sub (sb.mul ((sd.mul sl).sub (sf.mul sg)))).add ((sc.mul ((sd.mul sk).sub (se.mul sg))).mono (by omega))).mono (by omega)
end DL
set_option Elab.async false
set_option linter.all false
set_option maxRecDepth 100000
/-! DN: lists of drawn numbers. -/
namespace DL
open PySem PySem.Spec L2
open PyProof.Rows hiding St
section
variable {W : WX} {E : ET} {r : Rho} {m m0 m2 : Mu} {K : KT} {te : TE} {p : Addr} {s iv n : Nat} {vs : List Nat}
theorem We.perm (p : m.Perm m2) (h : We W E te r m2 K) : We W E te r m K := fun s H Q e z g => by
  obtain ⟨mu, hd⟩ := e.mu.perm p
  have e2 : EnvR r m2 s H := ⟨by rw [hd]; exact e.env, mu⟩
  have z2 : Rz W E m2 H := fun x r' m' cls dd s' H' a => z x r' m' cls dd s' H' (by rw [← hd]; exact a)
  exact h s H Q e2 z2 fun d m' v H' a => g d m' v H' (by rw [← hd]; exact a)
/-- [.. for i in range(n)], each item drawn from the pot -/
theorem we_lcDraw (P : Nat → Int → Prop) (hv : vs = [iv]) (hm : PotM p m0 m) (hs : r[s]? = some (some (.int (n : Nat)))) (hn : n ≤ 1000)
    (hel : ∀ i, i < n → ∀ m1 m', PotM p m1 m' → We wNo eNo te ((r.set iv none).set iv (some (.int (i : Nat)))) m' fun y m4 => ∃ v, y = .int v ∧ P i v ∧ PotM p m1 m4)
    (k : ∀ (xs : List Int) m', xs.length = n → (∀ i, i < n → P i xs[i]!) → PotM p m0 m' → K (.lst (xs.map D.int)) m') :
    We W E (tLc (iRng1 (tCons (tVar s) tNil)) (gName iv) tYes te vs) r m K := by
  subst hv
  refine we_frz (we_perm (we_lcI (gk_name (by simp)) (wi_rng1S (wa_cons (we_var hs (wa_nil ⟨_, rfl, ⟨rngB (by omega), fun Dd hD => ?_⟩⟩))))))
  refine ⟨fun i m' => ∃ (xs : List Int) (m'' : Mu), xs.length = i ∧ (∀ j, j < i → P j xs[j]!) ∧ m'.Perm m'' ∧ PotM p ((Dd, .lst (xs.map D.int)) :: m0) m'', ?_, fun _ _ _ => Sub.nil, ?_, ?_⟩
  · obtain ⟨cs, a, b, e, h1, h2, h3⟩ := hm
    subst e
    exact ⟨[], _, rfl, fun _ h => absurd h (Nat.not_lt_zero _), List.Perm.swap _ _ _, cs, a, b, rfl, h1, h2, h3⟩
  · rintro i x m' hx ⟨xs, m'', hl, hp, pm, hq⟩
    obtain ⟨a, ha, rfl⟩ := get_map hx
    obtain ⟨hlt, rfl⟩ := List.getElem?_eq_some_iff.mp ha
    have hi : i < n := by simpa using hlt
    rw [List.getElem_range]
    refine wg_name (wt_yes ⟨fun _ => ?_, fun z => nomatch z⟩)
    refine We.perm pm ((hel i hi _ _ hq).imp fun y m4 ⟨v, e, hv, hq4⟩ => ?_)
    subst e
    obtain ⟨cs, a, b, e, h1, h2, h3⟩ := hq4
    subst e
    refine ⟨xs.map D.int, _, .tail .head, by rw [List.length_map]; omega, .tail .head, xs ++ [v], _, by rw [List.length_append, hl]; rfl, fun j hj => ?_, List.Perm.refl _, cs, a, b, by rw [List.map_append]; rfl, h1, h2, h3⟩
    by_cases e : j < i
    · have q := hp j e
      rw [getElem!_pos xs j (by omega)] at q
      rw [getElem!_pos (xs ++ [v]) j (by rw [List.length_append]; omega), List.getElem_append_left (by omega)]
      exact q
    · obtain rfl : j = i := by omega
      rw [getElem!_pos (xs ++ [v]) j (by rw [List.length_append, hl]; exact Nat.lt_succ_self _), List.getElem_append_right (by omega)]
      simpa [hl] using hv
  · rintro m' ⟨xs, m'', hl, hp, pm, cs, a, b, e, h1, h2, h3⟩
    subst e
    simp only [List.length_map, List.length_range, Int.toNat_natCast] at hl hp
    exact ⟨_, pm.trans (List.Perm.swap _ _ _), Dd, xs.map D.int, _, rfl, rfl, k xs _ hl hp ⟨cs, a, b, rfl, h1, h2, h3⟩⟩
end
end DL
set_option Elab.async false
set_option linter.all false
set_option maxRecDepth 100000
set_option maxHeartbeats 4000000
namespace K22
open PySem PySem.Spec L2 DL
open PyProof.Rows hiding St
open SX (S)
/-! one step, by the goal's head -/

/-! Ratio and Span by numbers: their promises used -/
local macro_rules | `(tactic| walk_at "fld_1") => `(tactic| (with_reducible refine we_fldF ?_))
local macro_rules | `(tactic| walk_at "useWe_1") => `(tactic| first | (with_reducible refine we_mt ?_) | (with_reducible refine we_ratQ ?_) | (with_reducible refine we_ratQ1 ?_) | (with_reducible refine we_spn ?_) | fail)
local macro_rules | `(tactic| walk_at "sWe_1") => `(tactic| first
  | ((with_reducible refine we_var (d := ?d) ?hv ?hk); case hv => rfl)
  | (with_reducible first
    | refine we_cint ?_ | refine we_2 ?_ | refine we_cl0 ?_ | refine we_tup ?_ | refine we_1 ?_ | refine we_c2 ?_ | refine we_cbl ?_ | refine we_cnon ?_ | refine we_cty ?_ | refine we_cref ?_
    | refine we_op ?_ | refine we_andV ?_ | refine we_orV ?_ | refine we_notV ?_ | refine we_3 ?_ | refine we_ifx ?_ | refine we_cstr ?_ | refine we_clH ?_)
  | walk_at "fld_1"
  | walk_at "useWe_1")
local macro_rules | `(tactic| walk_at "useW2_1") => `(tactic| first
  | (with_reducible refine w2_addO (by assumption) (by decide) .fixed .fixed ?_) | (with_reducible refine w2_subO (by assumption) (by decide) .fixed .fixed ?_) | (with_reducible refine w2_mulO (by assumption) (by decide) .fixed .fixed ?_) | (with_reducible refine w1_negO (by assumption) (by decide) .fixed ?_) | (with_reducible refine w2_inO (by assumption) (by decide) .fixed ?_) | fail)
local macro_rules | `(tactic| walk_at "sW2_1") => `(tactic| first
  | (with_reducible first
    | refine w2_add ?_ | refine w2_sub ?_ | refine w2_mul ⟨?_, ?_⟩ | refine w2_fdiv ⟨?_, ?_⟩ | refine w2_mod ⟨?_, ?_⟩ | refine w2_pow ⟨?_, ?_⟩ | refine w2_eqI ?_ | refine w2_neI ?_ | refine w2_lt ?_ | refine w2_le ?_ | refine w2_gt ?_ | refine w2_ge ?_ | refine w2_eqFI ?_ | refine w2_neFI ?_)
  | ((with_reducible refine w2_ixT (d := ?d) ⟨?hv, ?hk⟩); case hv => rfl)
  | ((with_reducible refine w2_ixL (d := ?d) ⟨?hv, ?hk⟩); case hv => rfl)
  | ((with_reducible refine w2_ixM (d := ?d) .head ⟨?hv, ?hk⟩); case hv => rfl)
  | (with_reducible first
    | refine w2_eqIH ?_ | refine w2_neIH ?_ | refine w2_mulH ⟨?_, ?_⟩ | refine w2_addH ?_ | refine w2_subH ?_ | refine w2_isN ?_ | refine w2_notN ?_ | refine w2_isB ?_ | refine w2_notB ?_)
  | walk_at "useW2_1")
local macro_rules | `(tactic| walk_at "sWa_1") => `(tactic| with_reducible first | refine wa_nil ?_ | refine wa_cons ?_)
local macro_rules | `(tactic| walk_at "useWs_1") => `(tactic| first | (with_reducible refine ws_rs0 ?_) | (with_reducible refine ws_rs ?_) | fail)
local macro_rules | `(tactic| walk_at "sWs_1") => `(tactic| first
  | (with_reducible first | refine ws_seq ?_ | refine ws_ret ?_ | refine ws_asg ?_ | refine ws_next ?_ | refine ws_drop ?_ | refine ws_par ?_ | refine ws_par3 ?_ | refine ws_fldN ?_ | refine ws_brk ?_ | refine ws_cont ?_)
  | walk_at "useWs_1")
local macro_rules | `(tactic| walk_at "sWt_1") => `(tactic| with_reducible first | refine wt_test ?_ | refine wt_tr ?_ | refine wt_and ?_ | refine wt_or ?_ | refine wt_not ?_)
local macro_rules | `(tactic| walk_at "useWc_1") => `(tactic| fail)
local macro_rules | `(tactic| walk_at "sWc_1") => `(tactic| first
  | (with_reducible first | refine wc_int ?_ | refine wc_abs ?_ | refine wc_min ?_ | refine wc_gcd ?_ | refine wc_isiT .int kit_ii ?_ | refine wc_isiT .int kit_ib ?_ | refine wc_len .lst ?_ | refine wc_len .tup ?_ | refine wc_strI ?_ ?_)
  | walk_at "useWc_1")
local macro_rules | `(tactic| walk_at "sWi_1") => `(tactic| fail)
local macro_rules | `(tactic| walk_at "sWg_1") => `(tactic| with_reducible first | refine wg_name ?_ | refine wg_subM ?_ | refine wg_tup rfl ?_)
local macro_rules | `(tactic| walk_at "sW1_1") => `(tactic| first | (with_reducible refine w1_neg ?_) | walk_at "useW2_1")
local macro_rules | `(tactic| walk_at "sWgs_1") => `(tactic| with_reducible first | refine wgs_cons ?_ | refine wgs_nil ?_)
local macro_rules | `(tactic| walk_at "sS_1") => `(tactic| fail)
local macro_rules | `(tactic| walk_at "use_1") => `(tactic| fail)
local macro_rules | `(tactic| walk_at "sX_1") => `(tactic| first
  | (with_reducible refine ⟨_, rfl, ?_⟩)
  | (with_reducible refine fld_top (by assumption) ?_) | (with_reducible refine fld_bottom (by assumption) ?_)
  | (with_reducible refine ⟨_, .bl, ?_⟩)
  | ((with_reducible refine ⟨?h, ?_⟩); case h => rfl)
  | (with_reducible refine ⟨_, _, rfl, ?_⟩)
  | (with_reducible refine ⟨_, _, _, rfl, ?_⟩)
  | walk_at "use_1"
  | (with_reducible refine setN_top (by assumption) ?_) | (with_reducible refine setN_bottom (by assumption) ?_)
  | ((with_reducible refine ⟨_, _, _, ?j, _, rfl, rfl, .head, ?h, .head, ?_⟩); case h => rfl)
  | fail)
local macro_rules | `(tactic| walk_at "st_1") => `(tactic| first
  | ((with_reducible show We _ _ _ _ _ _); walk_at "sWe_1")
  | ((with_reducible show W2 _ _ _ _ _ _ _ _); walk_at "sW2_1")
  | ((with_reducible show Wa _ _ _ _ _ _); walk_at "sWa_1")
  | ((with_reducible show Ws _ _ _ _ _ _); walk_at "sWs_1")
  | ((with_reducible show Wt _ _ _ _ _ _); walk_at "sWt_1")
  | ((with_reducible show Wc _ _ _ _ _ _ _); walk_at "sWc_1")
  | ((with_reducible show Wi _ _ _ _ _ _); walk_at "sWi_1")
  | ((with_reducible show Wg _ _ _ _ _ _ _); walk_at "sWg_1")
  | ((with_reducible show W1 _ _ _ _ _ _ _); walk_at "sW1_1")
  | ((with_reducible show Wgs _ _ _ _ _ _ _); walk_at "sWgs_1")
  | walk_at "sS_1" | walk_at "sX_1" | fail)
local macro_rules | `(tactic| walk_at "wif_1") => `(tactic| (with_reducible refine ws_if ?_))
local macro_rules | `(tactic| walk_at "br_1") => `(tactic| ((with_reducible refine ⟨fun hb => ?_, fun hb => ?_⟩) <;> (try simp only [decide_eq_true_eq, decide_eq_false_iff_not, Bool.not_eq_true', Bool.not_eq_false', Bool.and_eq_true, Bool.or_eq_true, reduceCtorEq, List.length_map, Bool.not_true, Bool.not_false, DL.isNon, not_true_eq_false, not_false_eq_true, Classical.not_not, List.all_cons, List.all_nil, id_eq, Bool.and_self, Bool.true_and, decide_true, decide_false] at hb)))
local macro_rules | `(tactic| walk_at "go_1") => `(tactic| repeat' (first | walk_at "st_1" | walk_at "wif_1" | walk_at "br_1" | fail))

section
variable {G : Gx} {C_Ratio C_Load C_Book C_OutOfBounds : Addr}
theorem ok_digit (T : Txt G C_Ratio C_Load C_Book C_OutOfBounds) {f : Addr} {fd : FuncData} (F : L2.Fun G.K "_law_digit" "_law_digit" s__law_digit f fd) (b : Binds G.K fd ["pot", "many"] []) : Fnx G 1 f 2 S_digit [] := by
  refine fnx_of F sc__law_digit rfl b .nil rfl (fun cdv A outer s H FF hr tk => ⟨_, (pss_cons (ps_if (PW.pt (pw_and (pt_cm (os_eqF hr tk) (pe_ix ix_seq (pe_var (i := 0) rfl (Or.inl rfl) nd_pot.1 nd_pot.2) pe_int (fun _ _ => rfl)) pe_int (nomark _)) (pw_and1 (pt_cm os_lt (pe_ix ix_seq (pe_var (i := 0) rfl (Or.inl rfl) nd_pot.1 nd_pot.2) pe_int (fun _ _ => rfl)) (pe_cb cs_len rfl T.n_len bt_len (pa_cons (pe_ix ix_seq (pe_var (i := 0) rfl (Or.inl rfl) nd_pot.1 nd_pot.2) pe_int (fun _ _ => rfl)) pa_nil)) (nomark _))))) (pss_cons (ps_asg (pe_ix ix_seq (pe_ix ix_seq (pe_var (i := 0) rfl (Or.inl rfl) nd_pot.1 nd_pot.2) pe_int (fun _ _ => rfl)) (pe_ix ix_seq (pe_var (i := 0) rfl (Or.inl rfl) nd_pot.1 nd_pot.2) pe_int (fun _ _ => rfl)) (fun _ _ => rfl)) (pg_sub (pe_var (i := 0) rfl (Or.inl rfl) nd_pot.1 nd_pot.2) pe_int set_list)) (pss_one (ps_asg (pe_bin (os_add hr tk) (pe_ix ix_seq (pe_var (i := 0) rfl (Or.inl rfl) nd_pot.1 nd_pot.2) pe_int (fun _ _ => rfl)) pe_int) (pg_sub (pe_var (i := 0) rfl (Or.inl rfl) nd_pot.1 nd_pot.2) pe_int set_list)))) pss_nil) (pss_cons (ps_set (i := 2) sc__law_digit.nd rfl (Or.inl rfl) (pe_bin os_mod (pe_ct cs_int rfl T.n_int bt_int (pa_cons (pe_ix ix_seq (pe_var (i := 0) rfl (Or.inl rfl) nd_pot.1 nd_pot.2) pe_int (fun _ _ => rfl)) pa_nil)) (pe_var (i := 1) rfl (Or.inl rfl) nd_many.1 nd_many.2))) (pss_cons (ps_asg (pe_bin os_fdiv (pe_ct cs_int rfl T.n_int bt_int (pa_cons (pe_ix ix_seq (pe_var (i := 0) rfl (Or.inl rfl) nd_pot.1 nd_pot.2) pe_int (fun _ _ => rfl)) pa_nil)) (pe_var (i := 1) rfl (Or.inl rfl) nd_many.1 nd_many.2)) (pg_sub (pe_var (i := 0) rfl (Or.inl rfl) nd_pot.1 nd_pot.2) pe_int set_list)) (pss_one (ps_ret (pe_var (i := 2) rfl (Or.inl rfl) nd_found.1 nd_found.2)))))), ?_⟩)
  rintro ds m K E - ⟨p, many, m0, rfl, h0, hb, ⟨cs, i, r, rfl, hi, hrr, hcs⟩, k⟩
  show Ws _ _ _ [some (.ref p), some (.int many), none] _ _
  dsimp only [cx_G, cx_K]
  have fin : ∀ (cs : List Int) (i r : Int), 0 ≤ i → 0 ≤ r → (∀ c ∈ cs, 0 ≤ c) → K (.int (r.fmod many)) ((p, .lst [.lst (cs.map D.int), .int i, .int (r.fdiv many)]) :: m0) := fun cs i r hi hr hc => by
    rw [Int.fmod_eq_emod_of_nonneg _ (by omega), Int.fdiv_eq_ediv_of_nonneg _ (by omega)]
    exact k _ _ (Int.emod_nonneg _ (by omega)) (Int.emod_lt_of_pos _ h0) ⟨cs, i, _, rfl, hi, Int.ediv_nonneg hr (by omega), hc⟩
  have hne : many ≠ 0 := by omega
  have hdv : CDivX r many := hb.divX hne (by decide)
  walk_at "go_1"
  · obtain ⟨c, hc, hat⟩ := atI_ints hi ‹i < _›
    refine w2_ixL ⟨hat, ?_⟩
    walk_at "go_1"
    · exact hne
    · exact hb.divX hne (by decide)
    · exact fin _ _ _ (by omega) (hcs _ hc) hcs
  all_goals first | exact hne | exact hdv | exact fin _ _ _ hi hrr hcs
def S_whole : SpecD := fun ds m K _ => ∃ i : Int, ds = [.int i] ∧ K (.bl true) m
theorem use_whole {i : Int} {m : Mu} {K : KT} {E : Ex → Mu → Prop} (h : K (.bl true) m) : S_whole [.int i] m K E := ⟨i, rfl, h⟩
theorem ok_whole (T : Txt G C_Ratio C_Load C_Book C_OutOfBounds) {f : Addr} {fd : FuncData} (F : L2.Fun G.K "_law_whole" "_law_whole" s__law_whole f fd) (b : L2.Binds G.K fd ["told"] []) : Fnx G 1 f 1 S_whole [] := by
  refine fnx_of F sc__law_whole rfl b .nil rfl (fun cdv A outer s H FF hr tk => ⟨_, (pss_one (ps_ret (pe_and (pe_cb cs_isi rfl T.n_isinstance bt_isinstance (pa_cons (pe_var (i := 0) rfl (Or.inl rfl) nd_told.1 nd_told.2) (pa_cons (pe_bltn (v := .ty "int") rfl T.n_int bt_int rfl) pa_nil))) (pe_one (pe_not (pe_cb cs_isi rfl T.n_isinstance bt_isinstance (pa_cons (pe_var (i := 0) rfl (Or.inl rfl) nd_told.1 nd_told.2) (pa_cons (pe_bltn (v := .ty "bool") rfl T.n_bool bt_bool rfl) pa_nil)))))))), ?_⟩)
  rintro ds m K E - ⟨i, rfl, k⟩
  show Ws _ _ _ [some (.int i)] _ _
  dsimp only [cx_G, cx_K]
  walk_at "go_1"
  exact k
end
/-! comprehensions, sums, lists of others -/

section
variable {G : Gx} {C_Ratio C_Load C_Book C_OutOfBounds : Addr}
abbrev lab17 : List (List Nat) := [[98], [97, 55], [48], [122, 122, 57, 122], [113], [98, 55], [48, 48], [97, 98, 99, 100, 101, 102, 103, 104], [122, 121, 57, 122], [97], [97, 98, 99, 100, 101, 102, 103, 105], [55, 98], [122, 122, 56, 122], [120, 49], [108, 111, 97, 100, 48, 48, 48, 49], [57], [99, 51, 99]]
structure Labs (L : List (List Nat)) : Prop where
  len : L.length = 17
  ok : ∀ l ∈ L, LabOk l
  nd : L.Nodup
def labsOf (t s : Nat) : List (List Nat) := (List.range 17).map fun k => lab17[(t + s * k) % 17]!
theorem lab17_ok : ∀ l ∈ lab17, LabOk l := by
  have h : ∀ l ∈ lab17, 1 ≤ l.length ∧ l.length ≤ 8 ∧ ∀ c ∈ l, c ∈ ALN ∨ c ∈ DGT := by decide +kernel
  exact h
theorem labs_ok {t s : Nat} (ht : t < 17) (hs : s < 16) : Labs (labsOf t (1 + s)) := by
  refine ⟨by unfold labsOf; rw [List.length_map, List.length_range], fun l hl => ?_, ?_⟩
  · obtain ⟨k, _, rfl⟩ := List.mem_map.mp hl
    have hk : (t + (1 + s) * k) % 17 < 17 := Nat.mod_lt _ (by decide)
    exact lab17_ok _ (by rw [getElem!_pos lab17 _ hk]; exact List.getElem_mem _)
  · have h : ∀ t, t < 17 → ∀ s, s < 16 → (labsOf t (1 + s)).Nodup := by decide +kernel
    exact h t ht s hs
def S_labels : SpecD := fun ds m K _ => ∃ p m0, ds = [.ref p] ∧ PotM p m0 m ∧ ∀ L m', Labs L → PotM p m0 m' → K (.lst (L.map ts)) m'
theorem use_labels {p : Addr} {m m0 : Mu} {K : KT} {E : Ex → Mu → Prop} (hm : PotM p m0 m) (k : ∀ L m', Labs L → PotM p m0 m' → K (.lst (L.map ts)) m') : S_labels [.ref p] m K E := ⟨p, m0, rfl, hm, k⟩
local macro_rules | `(tactic| walk_at "fld_2") => `(tactic| (with_reducible refine we_fldF ?_))
local macro_rules | `(tactic| walk_at "useWe_2") => `(tactic| first | (with_reducible refine we_lst ?_) | fail)
local macro_rules | `(tactic| walk_at "sWe_2") => `(tactic| first
  | ((with_reducible refine we_var (d := ?d) ?hv ?hk); case hv => rfl)
  | (with_reducible first
    | refine we_cint ?_ | refine we_2 ?_ | refine we_cl0 ?_ | refine we_tup ?_ | refine we_1 ?_ | refine we_c2 ?_ | refine we_cbl ?_ | refine we_cnon ?_ | refine we_cty ?_ | refine we_cref ?_
    | refine we_op ?_ | refine we_andV ?_ | refine we_orV ?_ | refine we_notV ?_ | refine we_3 ?_ | refine we_ifx ?_ | refine we_cstr ?_ | refine we_clH ?_)
  | walk_at "fld_2"
  | walk_at "useWe_2")
local macro_rules | `(tactic| walk_at "useW2_2") => `(tactic| first
  | (with_reducible refine w2_eqRN ?_) | (with_reducible refine w2_eqLN ?_) | (with_reducible refine w2_eqLli ?_) | (with_reducible refine w2_eqLi ?_)
  | (with_reducible refine w2_ixT ⟨ix_map0 ?_, ?_⟩) | (with_reducible refine w2_ixL ⟨ix_map0 ?_, ?_⟩) | (with_reducible refine w2_ixT ⟨ix_map ?_, ?_⟩) | (with_reducible refine w2_ixL ⟨ix_map ?_, ?_⟩)
  | (with_reducible refine w2_addO (by assumption) (by decide) .fixed .fixed ?_) | (with_reducible refine w2_subO (by assumption) (by decide) .fixed .fixed ?_) | (with_reducible refine w2_mulO (by assumption) (by decide) .fixed .fixed ?_) | (with_reducible refine w1_negO (by assumption) (by decide) .fixed ?_)
  | (with_reducible refine w2_catL .lst .lst ?_ ?_) | fail)
local macro_rules | `(tactic| walk_at "sW2_2") => `(tactic| first
  | (with_reducible first
    | refine w2_add ?_ | refine w2_sub ?_ | refine w2_mul ⟨?_, ?_⟩ | refine w2_fdiv ⟨?_, ?_⟩ | refine w2_mod ⟨?_, ?_⟩ | refine w2_pow ⟨?_, ?_⟩ | refine w2_eqI ?_ | refine w2_neI ?_ | refine w2_lt ?_ | refine w2_le ?_ | refine w2_gt ?_ | refine w2_ge ?_ | refine w2_eqFI ?_ | refine w2_neFI ?_)
  | ((with_reducible refine w2_ixT (d := ?d) ⟨?hv, ?hk⟩); case hv => rfl)
  | ((with_reducible refine w2_ixL (d := ?d) ⟨?hv, ?hk⟩); case hv => rfl)
  | ((with_reducible refine w2_ixM (d := ?d) .head ⟨?hv, ?hk⟩); case hv => rfl)
  | (with_reducible first
    | refine w2_eqIH ?_ | refine w2_neIH ?_ | refine w2_mulH ⟨?_, ?_⟩ | refine w2_addH ?_ | refine w2_subH ?_ | refine w2_isN ?_ | refine w2_notN ?_ | refine w2_isB ?_ | refine w2_notB ?_)
  | walk_at "useW2_2")
local macro_rules | `(tactic| walk_at "sWa_2") => `(tactic| with_reducible first | refine wa_nil ?_ | refine wa_cons ?_)
local macro_rules | `(tactic| walk_at "useWs_2") => `(tactic| first | (with_reducible refine ws_rs0 ?_) | (with_reducible refine ws_rs ?_) | fail)
local macro_rules | `(tactic| walk_at "sWs_2") => `(tactic| first
  | (with_reducible first | refine ws_seq ?_ | refine ws_ret ?_ | refine ws_asg ?_ | refine ws_next ?_ | refine ws_drop ?_ | refine ws_par ?_ | refine ws_par3 ?_ | refine ws_fldN ?_ | refine ws_brk ?_ | refine ws_cont ?_)
  | walk_at "useWs_2")
local macro_rules | `(tactic| walk_at "sWt_2") => `(tactic| with_reducible first | refine wt_test ?_ | refine wt_tr ?_ | refine wt_and ?_ | refine wt_or ?_ | refine wt_not ?_)
local macro_rules | `(tactic| walk_at "useWc_2") => `(tactic| first
  | (with_reducible refine wc_len (SeqM.len (by assumption)) ?_) | (with_reducible refine wc_sumG ?_) | (with_reducible refine wc_sumI ?_) | (with_reducible refine wc_tupleL .tup ?_) | (with_reducible refine wc_tupleL .lst ?_) | (with_reducible refine wc_listF .tup ?_) | (with_reducible refine wc_listF .lst ?_) | fail)
local macro_rules | `(tactic| walk_at "sWc_2") => `(tactic| first
  | (with_reducible first | refine wc_int ?_ | refine wc_abs ?_ | refine wc_min ?_ | refine wc_gcd ?_ | refine wc_isiT .int kit_ii ?_ | refine wc_isiT .int kit_ib ?_ | refine wc_len .lst ?_ | refine wc_len .tup ?_ | refine wc_strI ?_ ?_)
  | walk_at "useWc_2")
local macro_rules | `(tactic| walk_at "sWi_2") => `(tactic| with_reducible first | refine wi_seq ?_ | refine wi_rng1S ?_ | refine wi_rng2 ?_ | refine wi_zipM ?_)
local macro_rules | `(tactic| walk_at "sWg_2") => `(tactic| with_reducible first | refine wg_name ?_ | refine wg_subM ?_ | refine wg_tup rfl ?_)
local macro_rules | `(tactic| walk_at "sW1_2") => `(tactic| first | (with_reducible refine w1_neg ?_) | walk_at "useW2_2")
local macro_rules | `(tactic| walk_at "sWgs_2") => `(tactic| with_reducible first | refine wgs_cons ?_ | refine wgs_nil ?_)
local macro_rules | `(tactic| walk_at "sS_2") => `(tactic| first | (with_reducible refine SlA.mk ?_ ?_) | (with_reducible refine RngA.mk ?_ ?_) | (with_reducible refine LcS.mk ?_ (fun a ha q => ?_) ?_) | (with_reducible exact LcL.mk rfl rfl) | fail)
local macro_rules | `(tactic| walk_at "use_2") => `(tactic| first | (with_reducible refine use_digit ?_ ?_ (by assumption) fun dg m' d0 d1 hpm => ?_) | fail)
local macro_rules | `(tactic| walk_at "sX_2") => `(tactic| first
  | (with_reducible refine ⟨_, rfl, ?_⟩)
  | (with_reducible refine fld_top (by assumption) ?_) | (with_reducible refine fld_bottom (by assumption) ?_)
  | (with_reducible refine ⟨_, .bl, ?_⟩)
  | ((with_reducible refine ⟨?h, ?_⟩); case h => rfl)
  | (with_reducible refine ⟨_, _, rfl, ?_⟩)
  | (with_reducible refine ⟨_, _, _, rfl, ?_⟩)
  | walk_at "use_2"
  | (with_reducible refine setN_top (by assumption) ?_) | (with_reducible refine setN_bottom (by assumption) ?_)
  | ((with_reducible refine ⟨_, _, _, ?j, _, rfl, rfl, .head, ?h, .head, ?_⟩); case h => rfl)
  | fail)
local macro_rules | `(tactic| walk_at "st_2") => `(tactic| first
  | ((with_reducible show We _ _ _ _ _ _); walk_at "sWe_2")
  | ((with_reducible show W2 _ _ _ _ _ _ _ _); walk_at "sW2_2")
  | ((with_reducible show Wa _ _ _ _ _ _); walk_at "sWa_2")
  | ((with_reducible show Ws _ _ _ _ _ _); walk_at "sWs_2")
  | ((with_reducible show Wt _ _ _ _ _ _); walk_at "sWt_2")
  | ((with_reducible show Wc _ _ _ _ _ _ _); walk_at "sWc_2")
  | ((with_reducible show Wi _ _ _ _ _ _); walk_at "sWi_2")
  | ((with_reducible show Wg _ _ _ _ _ _ _); walk_at "sWg_2")
  | ((with_reducible show W1 _ _ _ _ _ _ _); walk_at "sW1_2")
  | ((with_reducible show Wgs _ _ _ _ _ _ _); walk_at "sWgs_2")
  | walk_at "sS_2" | walk_at "sX_2" | fail)
local macro_rules | `(tactic| walk_at "br_2") => `(tactic| ((with_reducible refine ⟨fun hb => ?_, fun hb => ?_⟩) <;> (try simp only [decide_eq_true_eq, decide_eq_false_iff_not, Bool.not_eq_true', Bool.not_eq_false', Bool.and_eq_true, Bool.or_eq_true, reduceCtorEq, List.length_map, Bool.not_true, Bool.not_false, DL.isNon, not_true_eq_false, not_false_eq_true, Classical.not_not, List.all_cons, List.all_nil, id_eq, Bool.and_self, Bool.true_and, decide_true, decide_false] at hb)))
local macro_rules | `(tactic| walk_at "gn_2") => `(tactic| repeat' (first | walk_at "st_2" | walk_at "br_2" | fail))
theorem ok_labels (T : Txt G C_Ratio C_Load C_Book C_OutOfBounds) (c__law_digit : Cal G 1 "_law_digit" 2 S_digit []) {f : Addr} {fd : FuncData} (F : L2.Fun G.K "_law_draw_labels" "_law_draw_labels" s__law_draw_labels f fd) (b : L2.Binds G.K fd ["pot"] []) : Fnx G 2 f 1 S_labels [] := by
  refine fnx_of F sc__law_draw_labels rfl b .nil rfl (fun cdv A outer s H FF hr tk => ⟨_, (pss_cons (ps_set (i := 1) sc__law_draw_labels.nd rfl (Or.inr rfl) (pe_lst (pa_cons (pe_strS (l := [98]) (by decide +kernel)) (pa_cons (pe_strS (l := [97, 55]) (by decide +kernel)) (pa_cons (pe_strS (l := [48]) (by decide +kernel)) (pa_cons (pe_strS (l := [122, 122, 57, 122]) (by decide +kernel)) (pa_cons (pe_strS (l := [113]) (by decide +kernel)) (pa_cons (pe_strS (l := [98, 55]) (by decide +kernel)) (pa_cons (pe_strS (l := [48, 48]) (by decide +kernel)) (pa_cons (pe_strS (l := [97, 98, 99, 100, 101, 102, 103, 104]) (by decide +kernel)) (pa_cons (pe_strS (l := [122, 121, 57, 122]) (by decide +kernel)) (pa_cons (pe_strS (l := [97]) (by decide +kernel)) (pa_cons (pe_strS (l := [97, 98, 99, 100, 101, 102, 103, 105]) (by decide +kernel)) (pa_cons (pe_strS (l := [55, 98]) (by decide +kernel)) (pa_cons (pe_strS (l := [122, 122, 56, 122]) (by decide +kernel)) pa_nil))))))))))))))) (pss_cons (ps_set (i := 1) sc__law_draw_labels.nd rfl (Or.inr rfl) (pe_bin (os_add hr tk) (pe_var (i := 1) rfl (Or.inr (Or.inl rfl)) nd_fixed.1 nd_fixed.2) (pe_lst (pa_cons (pe_strS (l := [120, 49]) (by decide +kernel)) (pa_cons (pe_strS (l := [108, 111, 97, 100, 48, 48, 48, 49]) (by decide +kernel)) (pa_cons (pe_strS (l := [57]) (by decide +kernel)) (pa_cons (pe_strS (l := [99, 51, 99]) (by decide +kernel)) pa_nil))))))) (pss_cons (ps_set (i := 2) sc__law_draw_labels.nd rfl (Or.inr rfl) (pe_cl c__law_digit hr (by decide) tk rfl (pa_cons (pe_var (i := 0) rfl (Or.inl rfl) nd_pot.1 nd_pot.2) (pa_cons pe_int pa_nil)))) (pss_cons (ps_set (i := 3) sc__law_draw_labels.nd rfl (Or.inr rfl) (pe_bin (os_add hr tk) pe_int (pe_cl c__law_digit hr (by decide) tk rfl (pa_cons (pe_var (i := 0) rfl (Or.inl rfl) nd_pot.1 nd_pot.2) (pa_cons pe_int pa_nil))))) (pss_one (ps_ret (pe_lc (own := [("k", 4)]) (g := (gName 4)) (tt := tYes) rfl sc__law_draw_labels.nd (pi_range1 rfl T.n_range (pa_cons pe_int pa_nil)) (blkOk_by (N := N__law_draw_labels) (sc := (defScope s__law_draw_labels)) (by decide +kernel)) (fun _ _ _ _ _ => (pg_name (i := 4) sc__law_draw_labels.nd rfl (Or.inl rfl))) (fun _ _ _ _ _ => pts_nil) (fun _ _ _ _ _ => (pe_ix (r := rIx G.K) ix_seq (pe_var (i := 1) rfl (Or.inr (Or.inl rfl)) nd_fixed.1 nd_fixed.2) (pe_bin os_mod (pe_ct (cs_int) rfl T.n_int bt_int (pa_cons (pe_bin (o := oAdd G _ wNo) (os_add (by exact hr) takes0N) (pe_var (i := 2) rfl (Or.inr (Or.inl rfl)) nd_turn.1 nd_turn.2) (pe_bin (o := oMul G _ wNo) (os_mul (by exact hr) takes0N) (pe_var (i := 3) rfl (Or.inr (Or.inl rfl)) nd_step.1 nd_step.2) (pe_var (i := 4) rfl (Or.inl rfl) nd_k.1 nd_k.2))) pa_nil)) pe_int) (fun _ _ => rfl)))))))))), ?_⟩)
  rintro ds m K E - ⟨p, m0, rfl, hm, k⟩
  show Ws _ _ _ [some (.ref p), none, none, none, none] _ _
  dsimp only [cx_G, cx_K]
  walk_at "gn_2"
  all_goals try first | decide | exact bd_lit (by decide)
  rename_i dg m1 d0 d1 h1 dg2 m2 d2 d3 h2
  obtain ⟨t, rfl⟩ := Int.eq_ofNat_of_zero_le d0
  obtain ⟨u, rfl⟩ := Int.eq_ofNat_of_zero_le d2
  have ok := labs_ok (t := t) (s := u) (by omega) (by omega)
  refine we_lcs (α := Nat) (fun k => .int (k : Nat)) (fun k => ts lab17[(t + (1 + u) * k) % 17]!) (gk_name rfl) (wi_rng1S (wa_cons (we_cint (wa_nil ⟨_, rfl, RngA.mk (rngB (by decide)) ⟨List.range 17, rfl, LcS.mk (by decide) (fun k hk q => wg_name ?_) ?_⟩⟩))))
  · have hk' : k < 17 := List.mem_range.mp hk
    have hq : (t + (1 + u) * k) % 17 < 17 := Nat.mod_lt _ (by decide)
    walk_at "gn_2"
    · exact (show Bd 5 _ by unfold Bd; omega).mulX (show Bd 5 _ by unfold Bd; omega) (by decide)
    · decide
    have e : ((t : Int) + (1 + (u : Int)) * (k : Int)).fmod 17 = (((t + (1 + u) * k) % 17 : Nat) : Int) := by
      rw [Int.fmod_eq_emod_of_nonneg _ (by decide)]
      push_cast
      rfl
    rw [e]
    refine w2_ixL ⟨atI_nat (v := ts lab17[(t + (1 + u) * k) % 17]!) ?_, ⟨rfl, rfl⟩⟩
    show (lab17.map ts)[(t + (1 + u) * k) % 17]? = _
    rw [List.getElem?_map, List.getElem?_eq_getElem (h := hq), getElem!_pos lab17 _ hq]
    rfl
  · have e : (List.range 17).map (fun k => ts lab17[(t + (1 + u) * k) % 17]!) = (labsOf t (1 + u)).map ts := by
      unfold labsOf
      rw [List.map_map]
      rfl
    rw [e]
    exact k _ _ ok h2
end
end K22
set_option Elab.async false
set_option linter.all false
set_option maxRecDepth 100000
set_option maxHeartbeats 4000000
namespace K22
open PySem PySem.Spec L2 DL
open PyProof.Rows hiding St
open SX (S)
/-! one step, by the goal's head -/

/-! Ratio and Span by numbers: their promises used -/

/-! comprehensions, sums, lists of others -/

section
variable {W : WX} {E : ET} {ta : TA} {te : TE} {r : Rho} {m m0 : Mu} {K : KT} {G : Gx} {p q : Addr} {xs : List D}
/-- a list beneath the pot grows -/
theorem we_appP (h : We W E te r m fun o m1 => ∃ p q xs m0, o = .ref q ∧ PotM p ((q, .lst xs) :: m0) m1 ∧ Wa W E ta r m1 fun ds m2 => ∃ d, ds = [d] ∧ PotM p ((q, .lst xs) :: m0) m2 ∧ xs.length < 1000000 ∧ ∀ m3, PotM p ((q, .lst (xs ++ [d])) :: m0) m3 → K .non m3) :
    We W E (tBM G.K "list" rAppend te ta) r m K :=
  we_app (h.imp fun o m1 ⟨p, q, xs, m0, ho, hp, k⟩ => by
    obtain ⟨cs, i, r, rfl, e⟩ := hp
    exact ⟨q, xs, ho, .tail .head, k.imp fun ds m2 ⟨d, hd, hp2, hl, k2⟩ => by
      obtain ⟨cs', i', r', rfl, e'⟩ := hp2
      exact ⟨xs, d, _, hd, .tail .head, hl, .tail .head, k2 _ ⟨cs', i', r', rfl, e'⟩⟩⟩)
theorem PotM.sw {t : TS} {P : DEnds} (hp : PotM p m0 m) (h : ∀ m', PotM p ((q, .lst xs) :: m0) m' → Ws W E t r m' P) : Ws W E t r ((q, .lst xs) :: m) P := by
  obtain ⟨cs, i, r', rfl, e⟩ := hp
  exact Ws.swap (h _ ⟨cs, i, r', rfl, e⟩)
theorem PotM.fz {t : TS} {P : DEnds} {s : Nat} (hr : r[s]? = some (some (.ref q))) (hp : PotM p ((q, .lst xs) :: m0) m) (h : ∀ m', PotM p m0 m' → Ws W E t (r.set s (some (.lst xs))) m' P) : Ws W E t r m P := by
  obtain ⟨cs, i, r', rfl, e⟩ := hp
  exact Ws.swap (Ws.freeze (i := s) hr (h _ ⟨cs, i, r', rfl, e⟩))
end
section
variable {G : Gx} {C_Ratio C_Load C_Book C_OutOfBounds : Addr}
theorem fm {z n : Int} (h : 0 < n) : z.fmod n = z % n := Int.fmod_eq_emod_of_nonneg _ (by omega)
theorem cm {a b : Int} (ha : a.natAbs ≤ 1000000) (hb : b.natAbs ≤ 1000000) : DL.CMulX a b := (show Bd 20 a by unfold Bd; omega).mulX (show Bd 20 b by unfold Bd; omega) (by decide)
local macro_rules | `(tactic| walk_at "fld_1") => `(tactic| (with_reducible refine we_fldF ?_))
local macro_rules | `(tactic| walk_at "useWe_1") => `(tactic| first | (with_reducible refine we_appP ?_) | fail)
local macro_rules | `(tactic| walk_at "sWe_1") => `(tactic| first
  | ((with_reducible refine we_var (d := ?d) ?hv ?hk); case hv => rfl)
  | (with_reducible first
    | refine we_cint ?_ | refine we_2 ?_ | refine we_cl0 ?_ | refine we_tup ?_ | refine we_1 ?_ | refine we_c2 ?_ | refine we_cbl ?_ | refine we_cnon ?_ | refine we_cty ?_ | refine we_cref ?_
    | refine we_op ?_ | refine we_andV ?_ | refine we_orV ?_ | refine we_notV ?_ | refine we_3 ?_ | refine we_ifx ?_ | refine we_cstr ?_ | refine we_clH ?_)
  | walk_at "fld_1"
  | walk_at "useWe_1")
local macro_rules | `(tactic| walk_at "useW2_1") => `(tactic| first
  | (with_reducible refine w2_eqRN ?_) | (with_reducible refine w2_eqLN ?_) | (with_reducible refine w2_eqLli ?_) | (with_reducible refine w2_eqLi ?_)
  | (with_reducible refine w2_ixT ⟨ix_map0 ?_, ?_⟩) | (with_reducible refine w2_ixL ⟨ix_map0 ?_, ?_⟩) | (with_reducible refine w2_ixT ⟨ix_map ?_, ?_⟩) | (with_reducible refine w2_ixL ⟨ix_map ?_, ?_⟩)
  | (with_reducible refine w2_addO (by assumption) (by decide) .fixed .fixed ?_) | (with_reducible refine w2_subO (by assumption) (by decide) .fixed .fixed ?_) | (with_reducible refine w2_mulO (by assumption) (by decide) .fixed .fixed ?_) | (with_reducible refine w1_negO (by assumption) (by decide) .fixed ?_)
  | (with_reducible refine w2_catL .lst .lst ?_ ?_) | fail)
local macro_rules | `(tactic| walk_at "sW2_1") => `(tactic| first
  | (with_reducible first
    | refine w2_add ?_ | refine w2_sub ?_ | refine w2_mul ⟨?_, ?_⟩ | refine w2_fdiv ⟨?_, ?_⟩ | refine w2_mod ⟨?_, ?_⟩ | refine w2_pow ⟨?_, ?_⟩ | refine w2_eqI ?_ | refine w2_neI ?_ | refine w2_lt ?_ | refine w2_le ?_ | refine w2_gt ?_ | refine w2_ge ?_ | refine w2_eqFI ?_ | refine w2_neFI ?_)
  | ((with_reducible refine w2_ixT (d := ?d) ⟨?hv, ?hk⟩); case hv => rfl)
  | ((with_reducible refine w2_ixL (d := ?d) ⟨?hv, ?hk⟩); case hv => rfl)
  | ((with_reducible refine w2_ixM (d := ?d) .head ⟨?hv, ?hk⟩); case hv => rfl)
  | (with_reducible first
    | refine w2_eqIH ?_ | refine w2_neIH ?_ | refine w2_mulH ⟨?_, ?_⟩ | refine w2_addH ?_ | refine w2_subH ?_ | refine w2_isN ?_ | refine w2_notN ?_ | refine w2_isB ?_ | refine w2_notB ?_)
  | walk_at "useW2_1")
local macro_rules | `(tactic| walk_at "sWa_1") => `(tactic| with_reducible first | refine wa_nil ?_ | refine wa_cons ?_)
local macro_rules | `(tactic| walk_at "useWs_1") => `(tactic| first | (with_reducible refine ws_rs0 ?_) | (with_reducible refine ws_rs ?_) | fail)
local macro_rules | `(tactic| walk_at "sWs_1") => `(tactic| first
  | (with_reducible first | refine ws_seq ?_ | refine ws_ret ?_ | refine ws_asg ?_ | refine ws_next ?_ | refine ws_drop ?_ | refine ws_par ?_ | refine ws_par3 ?_ | refine ws_fldN ?_ | refine ws_brk ?_ | refine ws_cont ?_)
  | walk_at "useWs_1")
local macro_rules | `(tactic| walk_at "sWt_1") => `(tactic| with_reducible first | refine wt_test ?_ | refine wt_tr ?_ | refine wt_and ?_ | refine wt_or ?_ | refine wt_not ?_)
local macro_rules | `(tactic| walk_at "useWc_1") => `(tactic| first
  | (with_reducible refine wc_len (SeqM.len (by assumption)) ?_) | (with_reducible refine wc_sumG ?_) | (with_reducible refine wc_sumI ?_) | (with_reducible refine wc_tupleL .tup ?_) | (with_reducible refine wc_tupleL .lst ?_) | (with_reducible refine wc_listF .tup ?_) | (with_reducible refine wc_listF .lst ?_) | fail)
local macro_rules | `(tactic| walk_at "sWc_1") => `(tactic| first
  | (with_reducible first | refine wc_int ?_ | refine wc_abs ?_ | refine wc_min ?_ | refine wc_gcd ?_ | refine wc_isiT .int kit_ii ?_ | refine wc_isiT .int kit_ib ?_ | refine wc_len .lst ?_ | refine wc_len .tup ?_ | refine wc_strI ?_ ?_)
  | walk_at "useWc_1")
local macro_rules | `(tactic| walk_at "sWi_1") => `(tactic| with_reducible first | refine wi_seq ?_ | refine wi_rng1S ?_ | refine wi_rng2 ?_ | refine wi_zipM ?_)
local macro_rules | `(tactic| walk_at "sWg_1") => `(tactic| with_reducible first | refine wg_name ?_ | refine wg_subM ?_ | refine wg_tup rfl ?_)
local macro_rules | `(tactic| walk_at "sW1_1") => `(tactic| first | (with_reducible refine w1_neg ?_) | walk_at "useW2_1")
local macro_rules | `(tactic| walk_at "sWgs_1") => `(tactic| with_reducible first | refine wgs_cons ?_ | refine wgs_nil ?_)
local macro_rules | `(tactic| walk_at "sS_1") => `(tactic| first | (with_reducible refine SlA.mk ?_ ?_) | (with_reducible refine RngA.mk ?_ ?_) | (with_reducible refine LcS.mk ?_ (fun a ha q => ?_) ?_) | (with_reducible exact LcL.mk rfl rfl) | fail)
local macro_rules | `(tactic| walk_at "use_1") => `(tactic| first | (with_reducible refine use_digit ?_ ?_ (by assumption) fun dg m' d0 d1 hpm => ?_) | (with_reducible refine ⟨_, _, _, _, rfl, (by assumption : PotM _ _ _), ?_⟩) | (with_reducible refine ⟨(by assumption : PotM _ _ _), ?_⟩) | fail)
local macro_rules | `(tactic| walk_at "sX_1") => `(tactic| first
  | (with_reducible refine ⟨_, rfl, ?_⟩)
  | (with_reducible refine fld_top (by assumption) ?_) | (with_reducible refine fld_bottom (by assumption) ?_)
  | (with_reducible refine ⟨_, .bl, ?_⟩)
  | ((with_reducible refine ⟨?h, ?_⟩); case h => rfl)
  | (with_reducible refine ⟨_, _, rfl, ?_⟩)
  | (with_reducible refine ⟨_, _, _, rfl, ?_⟩)
  | walk_at "use_1"
  | (with_reducible refine setN_top (by assumption) ?_) | (with_reducible refine setN_bottom (by assumption) ?_)
  | ((with_reducible refine ⟨_, _, _, ?j, _, rfl, rfl, .head, ?h, .head, ?_⟩); case h => rfl)
  | fail)
local macro_rules | `(tactic| walk_at "st_1") => `(tactic| first
  | ((with_reducible show We _ _ _ _ _ _); walk_at "sWe_1")
  | ((with_reducible show W2 _ _ _ _ _ _ _ _); walk_at "sW2_1")
  | ((with_reducible show Wa _ _ _ _ _ _); walk_at "sWa_1")
  | ((with_reducible show Ws _ _ _ _ _ _); walk_at "sWs_1")
  | ((with_reducible show Wt _ _ _ _ _ _); walk_at "sWt_1")
  | ((with_reducible show Wc _ _ _ _ _ _ _); walk_at "sWc_1")
  | ((with_reducible show Wi _ _ _ _ _ _); walk_at "sWi_1")
  | ((with_reducible show Wg _ _ _ _ _ _ _); walk_at "sWg_1")
  | ((with_reducible show W1 _ _ _ _ _ _ _); walk_at "sW1_1")
  | ((with_reducible show Wgs _ _ _ _ _ _ _); walk_at "sWgs_1")
  | walk_at "sS_1" | walk_at "sX_1" | fail)
local macro_rules | `(tactic| walk_at "br_1") => `(tactic| ((with_reducible refine ⟨fun hb => ?_, fun hb => ?_⟩) <;> (try simp only [decide_eq_true_eq, decide_eq_false_iff_not, Bool.not_eq_true', Bool.not_eq_false', Bool.and_eq_true, Bool.or_eq_true, reduceCtorEq, List.length_map, Bool.not_true, Bool.not_false, DL.isNon, not_true_eq_false, not_false_eq_true, Classical.not_not, List.all_cons, List.all_nil, id_eq, Bool.and_self, Bool.true_and, decide_true, decide_false] at hb)))
local macro_rules | `(tactic| walk_at "gn_1") => `(tactic| repeat' (first | walk_at "st_1" | walk_at "br_1" | fail))
def S_weight : SpecD := fun ds m K _ => ∃ p k m0, ds = [.ref p, .int k] ∧ 0 ≤ k ∧ k ≤ 1000 ∧ PotM p m0 m ∧ ∀ t b m', 1 ≤ t → t ≤ 9 → 1 ≤ b → b ≤ 4 → PotM p m0 m' → K (.tup [.int t, .int b]) m'
theorem use_weight {p : Addr} {k : Int} {m m0 : Mu} {K : KT} {E : Ex → Mu → Prop} (h0 : 0 ≤ k) (h1 : k ≤ 1000) (hm : PotM p m0 m) (h : ∀ t b m', 1 ≤ t → t ≤ 9 → 1 ≤ b → b ≤ 4 → PotM p m0 m' → K (.tup [.int t, .int b]) m') : S_weight [.ref p, .int k] m K E := ⟨p, k, m0, rfl, h0, h1, hm, h⟩
theorem ok_weight (T : Txt G C_Ratio C_Load C_Book C_OutOfBounds) (c__law_digit : Cal G 1 "_law_digit" 2 S_digit []) {f : Addr} {fd : FuncData} (F : L2.Fun G.K "_law_draw_weight" "_law_draw_weight" s__law_draw_weight f fd) (b : L2.Binds G.K fd ["pot", "k"] []) : Fnx G 2 f 2 S_weight [] := by
  refine fnx_of F sc__law_draw_weight rfl b .nil rfl (fun cdv A outer s H FF hr tk => ⟨_, (pss_cons (ps_set (i := 2) sc__law_draw_weight.nd rfl (Or.inl rfl) (pe_bin (os_add hr tk) pe_int (pe_bin os_mod (pe_ct cs_int rfl T.n_int bt_int (pa_cons (pe_bin (os_add hr tk) (pe_cl c__law_digit hr (by decide) tk rfl (pa_cons (pe_var (i := 0) rfl (Or.inl rfl) nd_pot.1 nd_pot.2) (pa_cons pe_int pa_nil))) (pe_bin (os_mul hr tk) pe_int (pe_var (i := 1) rfl (Or.inl rfl) nd_k.1 nd_k.2))) pa_nil)) pe_int))) (pss_one (ps_ret (pe_tup (pa_cons (pe_var (i := 2) rfl (Or.inl rfl) nd_top.1 nd_top.2) (pa_cons (pe_bin (os_add hr tk) pe_int (pe_bin os_mod (pe_ct cs_int rfl T.n_int bt_int (pa_cons (pe_bin (os_add hr tk) (pe_cl c__law_digit hr (by decide) tk rfl (pa_cons (pe_var (i := 0) rfl (Or.inl rfl) nd_pot.1 nd_pot.2) (pa_cons pe_int pa_nil))) (pe_var (i := 1) rfl (Or.inl rfl) nd_k.1 nd_k.2)) pa_nil)) pe_int)) pa_nil)))))), ?_⟩)
  rintro ds m K E - ⟨p, k, m0, rfl, k0, k1, hm, kk⟩
  show Ws _ _ _ [some (.ref p), some (.int k), none] _ _
  dsimp only [cx_G, cx_K]
  walk_at "gn_1"
  all_goals try first | decide | exact bd_lit (by decide) | exact cm (by decide) (by omega)
  refine kk _ _ _ ?_ ?_ ?_ ?_ ‹_›
  all_goals rw [fm (by decide)]; omega
def bnd : Bool → Int
  | true => 99
  | false => 3
structure BasOk (w : Nat) (g : Bool) (B : List (List Int)) : Prop where
  n1 : 1 ≤ B.length
  n2 : B.length ≤ 4
  wid : ∀ r ∈ B, r.length = w
  bd : ∀ r ∈ B, ∀ x ∈ r, -(bnd g) ≤ x ∧ x ≤ bnd g
def S_base : SpecD := fun ds m K _ => ∃ p w g m0, ds = [.ref p, .int (w : Nat), .bl g] ∧ w ≤ 12 ∧ PotM p m0 m ∧ ∀ B m', BasOk w g B → PotM p m0 m' → K (lli B) m'
theorem use_base {p : Addr} {w : Nat} {g : Bool} {m m0 : Mu} {K : KT} {E : Ex → Mu → Prop} (h : w ≤ 12) (hm : PotM p m0 m) (k : ∀ B m', BasOk w g B → PotM p m0 m' → K (lli B) m') : S_base [.ref p, .int (w : Nat), .bl g] m K E := ⟨p, w, g, m0, rfl, h, hm, k⟩
theorem ok_base (T : Txt G C_Ratio C_Load C_Book C_OutOfBounds) (c__law_digit : Cal G 1 "_law_digit" 2 S_digit []) {f : Addr} {fd : FuncData} (F : L2.Fun G.K "_law_draw_base" "_law_draw_base" s__law_draw_base f fd) (b : L2.Binds G.K fd ["pot", "width", "great"] []) : Fnx G 2 f 3 S_base [] := by
  refine fnx_of F sc__law_draw_base rfl b .nil rfl (fun cdv A outer s H FF hr tk => ⟨_, (pss_cons (ps_set (i := 3) sc__law_draw_base.nd rfl (Or.inl rfl) (pe_lst pa_nil)) (pss_cons (ps_for (passes_of rfl) rfl (pi_range1 rfl T.n_range (pa_cons (pe_bin (os_add hr tk) pe_int (pe_bin os_mod (pe_ct cs_int rfl T.n_int bt_int (pa_cons (pe_bin (os_add hr tk) (pe_cl c__law_digit hr (by decide) tk rfl (pa_cons (pe_var (i := 0) rfl (Or.inl rfl) nd_pot.1 nd_pot.2) (pa_cons pe_int pa_nil))) pe_int) pa_nil)) pe_int)) pa_nil)) (pg_name (i := 4) sc__law_draw_base.nd rfl (Or.inl rfl)) (pss_cons (ps_set (i := 5) sc__law_draw_base.nd rfl (Or.inl rfl) (pe_lst pa_nil)) (pss_cons (ps_for (passes_of rfl) rfl (pi_range1 rfl T.n_range (pa_cons (pe_var (i := 1) rfl (Or.inl rfl) nd_width.1 nd_width.2) pa_nil)) (pg_name (i := 6) sc__law_draw_base.nd rfl (Or.inl rfl)) (pss_one (ps_if (pt_tr (pe_var (i := 2) rfl (Or.inl rfl) nd_great.1 nd_great.2)) (pss_one (ps_expr (pe_bm PySem.F.plainAttrs_list PySem.F.slot_list_append PySem.F.type_list_append mt_append (pe_var (i := 5) rfl (Or.inl rfl) nd_row.1 nd_row.2) (pa_cons (pe_bin (os_sub hr tk) (pe_bin os_mod (pe_ct cs_int rfl T.n_int bt_int (pa_cons (pe_bin (os_add hr tk) (pe_bin (os_add hr tk) (pe_cl c__law_digit hr (by decide) tk rfl (pa_cons (pe_var (i := 0) rfl (Or.inl rfl) nd_pot.1 nd_pot.2) (pa_cons pe_int pa_nil))) (pe_bin (os_mul hr tk) pe_int (pe_var (i := 4) rfl (Or.inl rfl) nd_k.1 nd_k.2))) (pe_bin (os_mul hr tk) pe_int (pe_var (i := 6) rfl (Or.inl rfl) nd_j.1 nd_j.2))) pa_nil)) pe_int) pe_int) pa_nil)))) (pss_one (ps_expr (pe_bm PySem.F.plainAttrs_list PySem.F.slot_list_append PySem.F.type_list_append mt_append (pe_var (i := 5) rfl (Or.inl rfl) nd_row.1 nd_row.2) (pa_cons (pe_bin (os_sub hr tk) (pe_bin os_mod (pe_ct cs_int rfl T.n_int bt_int (pa_cons (pe_bin (os_add hr tk) (pe_bin (os_add hr tk) (pe_bin (os_add hr tk) (pe_cl c__law_digit hr (by decide) tk rfl (pa_cons (pe_var (i := 0) rfl (Or.inl rfl) nd_pot.1 nd_pot.2) (pa_cons pe_int pa_nil))) (pe_bin (os_mul hr tk) pe_int (pe_var (i := 4) rfl (Or.inl rfl) nd_k.1 nd_k.2))) (pe_bin (os_mul hr tk) pe_int (pe_var (i := 6) rfl (Or.inl rfl) nd_j.1 nd_j.2))) pe_int) pa_nil)) pe_int) pe_int) pa_nil))))))) (pss_one (ps_expr (pe_bm PySem.F.plainAttrs_list PySem.F.slot_list_append PySem.F.type_list_append mt_append (pe_var (i := 3) rfl (Or.inl rfl) nd_found.1 nd_found.2) (pa_cons (pe_var (i := 5) rfl (Or.inl rfl) nd_row.1 nd_row.2) pa_nil))))))) (pss_one (ps_ret (pe_var (i := 3) rfl (Or.inl rfl) nd_found.1 nd_found.2))))), ?_⟩)
  rintro ds m K E - ⟨p, w, g, m0, rfl, hw, hm, kk⟩
  show Ws _ _ _ [some (.ref p), some (.int (w : Nat)), some (.bl g), none, none, none, none] _ _
  dsimp only [cx_G, cx_K]
  refine ws_seq (ws_asg (we_lstM (wa_nil ⟨rfl, fun fnd hf => wg_name ?_⟩)))
  refine PotM.sw hm fun m1 hm1 => ?_
  walk_at "gn_1"
  refine ws_range1 ?_
  walk_at "gn_1"
  all_goals try first | decide | exact bd_lit (by decide)
  rename_i dg m2 d0 d1 hm2
  have e4 : (dg + 2).fmod 4 = (dg + 2) % 4 := fm (by decide)
  let RR : Option D → Option D → Option D → Rho := fun o4 o5 o6 => [some (.ref p), some (.int (w : Nat)), some (.bl g), some (.ref fnd), o4, o5, o6]
  refine ⟨_, fun k r' m' => ∃ (B : List (List Int)) (o4 o5 o6 : Option D), B.length = k ∧ (∀ r ∈ B, r.length = w) ∧ (∀ r ∈ B, ∀ x ∈ r, -(bnd g) ≤ x ∧ x ≤ bnd g) ∧ r' = RR o4 o5 o6 ∧ PotM p ((fnd, .lst (B.map li)) :: m0) m', rfl, by rw [e4]; omega, ?_, ?_, ?_⟩
  · exact ⟨[], none, none, none, rfl, fun _ h => (nomatch h), fun _ h => (nomatch h), rfl, hm2⟩
  · rintro k r' m' hk ⟨B, o4, o5, o6, hB, hW, hX, rfl, hmB⟩
    have hk4 : k ≤ 4 := by rw [e4] at hk; omega
    refine ws_seq (ws_asg (we_lstM (wa_nil ⟨rfl, fun q hq => wg_name ?_⟩)))
    refine PotM.sw hmB fun m3 hm3 => ?_
    walk_at "gn_1"
    refine ws_range1 ?_
    walk_at "gn_1"
    refine ⟨_, fun j r' m' => ∃ (L : List Int) (o6 : Option D), L.length = j ∧ (∀ x ∈ L, -(bnd g) ≤ x ∧ x ≤ bnd g) ∧ r' = RR (some (.int (k : Nat))) (some (.ref q)) o6 ∧ PotM p ((q, .lst (L.map D.int)) :: (fnd, .lst (B.map li)) :: m0) m', rfl, by omega, ⟨[], o6, rfl, fun _ h => (nomatch h), rfl, hm3⟩, ?_, ?_⟩
    · rintro j r' m' hj ⟨L, o6', hL, hx, rfl, hmL⟩
      have hj2 : j < w := by omega
      have ap : ∀ (x : Int) (m' : Mu), -(bnd g) ≤ x → x ≤ bnd g → PotM p ((q, .lst (L.map D.int ++ [.int x])) :: (fnd, .lst (B.map li)) :: m0) m' → ∃ (L' : List Int) (o6 : Option D), L'.length = j + 1 ∧ (∀ x ∈ L', -(bnd g) ≤ x ∧ x ≤ bnd g) ∧ RR (some (.int (k : Nat))) (some (.ref q)) (some (.int (j : Nat))) = RR (some (.int (k : Nat))) (some (.ref q)) o6 ∧ PotM p ((q, .lst (L'.map D.int)) :: (fnd, .lst (B.map li)) :: m0) m' := fun x m' x0 x1 hp => by
        refine ⟨L ++ [x], _, by rw [List.length_append, hL]; rfl, fun z hz => ?_, rfl, by rw [List.map_append]; exact hp⟩
        rcases List.mem_append.mp hz with z' | z'
        · exact hx _ z'
        · rw [List.mem_singleton.mp z']
          exact ⟨x0, x1⟩
      have ll : (L.map D.int).length < 1000000 := by rw [List.length_map, hL]; omega
      refine ws_if ?_
      cases g
      · have jk : ∀ u : Int, 0 ≤ u → u < 7 → 0 ≤ u + 2 * (k : Int) + 3 * (j : Int) + 1 := fun u h0 h1 => by omega
        walk_at "gn_1"
        all_goals try first | decide | exact bd_lit (by decide) | exact cm (by decide) (by omega)
        refine ⟨ll, fun m3 h3 => ap _ _ ?_ ?_ h3⟩
        all_goals rw [fm (by decide)]; show _ ≤ _; simp only [bnd]; omega
      · walk_at "gn_1"
        all_goals try first | decide | exact bd_lit (by decide) | exact cm (by decide) (by omega)
        refine ⟨ll, fun m3 h3 => ap _ _ ?_ ?_ h3⟩
        all_goals rw [fm (by decide)]; show _ ≤ _; simp only [bnd]; omega
    · rintro r' m' ⟨L, o6', hL, hx, rfl, hmL⟩
      rw [show ((w : Nat) : Int).toNat = w by omega] at hL
      refine PotM.fz (s := 5) rfl hmL fun m4 hm4 => ?_
      walk_at "gn_1"
      refine ⟨by rw [List.length_map, hB]; omega, fun m5 hm5 => ⟨B ++ [L], _, _, _, by rw [List.length_append, hB]; rfl, fun r hr => ?_, fun r hr => ?_, rfl, by rw [List.map_append]; exact hm5⟩⟩
      · rcases List.mem_append.mp hr with z | z
        · exact hW _ z
        · rw [List.mem_singleton.mp z]
          exact hL
      · rcases List.mem_append.mp hr with z | z
        · exact hX _ z
        · rw [List.mem_singleton.mp z]
          exact hx
  · rintro r' m' ⟨B, o4, o5, o6, hB, hW, hX, rfl, hmB⟩
    refine PotM.fz (s := 3) rfl hmB fun m4 hm4 => ?_
    walk_at "gn_1"
    exact kk B _ ⟨by rw [e4] at hB; omega, by rw [e4] at hB; omega, hW, hX⟩ hm4
end
end K22
set_option Elab.async false
set_option linter.all false
set_option maxRecDepth 100000
set_option maxHeartbeats 4000000
namespace K22
open PySem PySem.Spec L2 DL
open PyProof.Rows hiding St
open SX (S)
/-! one step, by the goal's head -/

/-! Ratio and Span by numbers: their promises used -/

/-! comprehensions, sums, lists of others -/

/-- a row of the law -/
structure Rw where
  lab : List Nat
  t : Int
  b : Int
  nums : List Int
abbrev rwD (a : Rw) : D := .tup [ts a.lab, .tup [.int a.t, .int a.b], li a.nums]
def rwL (a : Rw) : Ld := ⟨a.lab, dv a.t a.b, a.nums⟩
structure RowOk (w : Nat) (a : Rw) : Prop where
  lab : LabOk a.lab
  t0 : 1 ≤ a.t
  t1 : a.t ≤ 1000000
  b0 : 1 ≤ a.b
  b1 : a.b ≤ 1000000
  wid : a.nums.length = w
  nb : ∀ x ∈ a.nums, -9999 ≤ x ∧ x ≤ 9999
structure RwsOk (w : Nat) (R : List Rw) : Prop where
  len : R.length ≤ 13
  ok : ∀ a ∈ R, RowOk w a
  nd : (R.map (·.lab)).Nodup
def fbd : Bool → Int
  | true => 101
  | false => 4
theorem fx_bd {g : Bool} {f x : Int} (h0 : -(fbd g) ≤ f) (h1 : f ≤ fbd g) (k0 : -(bnd g) ≤ x) (k1 : x ≤ bnd g) : -9999 ≤ f * x ∧ f * x ≤ 9999 := by
  have hb : (f * x).natAbs ≤ 9999 := by
    rw [Int.natAbs_mul]
    cases g
    · simp only [fbd, bnd] at *
      exact Nat.le_trans (Nat.mul_le_mul (show f.natAbs ≤ 4 by omega) (show x.natAbs ≤ 3 by omega)) (by decide)
    · simp only [fbd, bnd] at *
      exact Nat.le_trans (Nat.mul_le_mul (show f.natAbs ≤ 101 by omega) (show x.natAbs ≤ 99 by omega)) (by decide)
  omega
theorem ixN_natL {n j : Nat} (h : j < n) : ixN n (j : Int) = some j := by
  unfold ixN
  rw [if_pos (by omega), if_pos (by omega)]
  rfl
section
variable {G : Gx} {C_Ratio C_Load C_Book C_OutOfBounds : Addr}
def S_rows : SpecD := fun ds m K _ => ∃ p L w n m0, ds = [.ref p, .lst (L.map ts), .int (w : Nat), .int (n : Nat)] ∧ Labs L ∧ w ≤ 12 ∧ n ≤ 13 ∧ PotM p m0 m ∧ ∀ R m', R.length = n → RwsOk w R → PotM p m0 m' → K (.lst (R.map rwD)) m'
theorem use_rows {p : Addr} {L : List (List Nat)} {w n : Nat} {m m0 : Mu} {K : KT} {E : Ex → Mu → Prop} (hL : Labs L) (hw : w ≤ 12) (hn : n ≤ 13) (hm : PotM p m0 m) (k : ∀ R m', R.length = n → RwsOk w R → PotM p m0 m' → K (.lst (R.map rwD)) m') : S_rows [.ref p, .lst (L.map ts), .int (w : Nat), .int (n : Nat)] m K E := ⟨p, L, w, n, m0, rfl, hL, hw, hn, hm, k⟩
local macro_rules | `(tactic| walk_at "fld_1") => `(tactic| (with_reducible refine we_fldF ?_))
local macro_rules | `(tactic| walk_at "useWe_1") => `(tactic| first | (with_reducible refine we_appP ?_) | fail)
local macro_rules | `(tactic| walk_at "sWe_1") => `(tactic| first
  | ((with_reducible refine we_var (d := ?d) ?hv ?hk); case hv => rfl)
  | (with_reducible first
    | refine we_cint ?_ | refine we_2 ?_ | refine we_cl0 ?_ | refine we_tup ?_ | refine we_1 ?_ | refine we_c2 ?_ | refine we_cbl ?_ | refine we_cnon ?_ | refine we_cty ?_ | refine we_cref ?_
    | refine we_op ?_ | refine we_andV ?_ | refine we_orV ?_ | refine we_notV ?_ | refine we_3 ?_ | refine we_ifx ?_ | refine we_cstr ?_ | refine we_clH ?_)
  | walk_at "fld_1"
  | walk_at "useWe_1")
local macro_rules | `(tactic| walk_at "useW2_1") => `(tactic| first
  | (with_reducible refine w2_eqRN ?_) | (with_reducible refine w2_eqLN ?_) | (with_reducible refine w2_eqLli ?_) | (with_reducible refine w2_eqLi ?_)
  | (with_reducible refine w2_ixT ⟨ix_map0 ?_, ?_⟩) | (with_reducible refine w2_ixL ⟨ix_map0 ?_, ?_⟩) | (with_reducible refine w2_ixT ⟨ix_map ?_, ?_⟩) | (with_reducible refine w2_ixL ⟨ix_map ?_, ?_⟩)
  | (with_reducible refine w2_addO (by assumption) (by decide) .fixed .fixed ?_) | (with_reducible refine w2_subO (by assumption) (by decide) .fixed .fixed ?_) | (with_reducible refine w2_mulO (by assumption) (by decide) .fixed .fixed ?_) | (with_reducible refine w1_negO (by assumption) (by decide) .fixed ?_)
  | (with_reducible refine w2_catL .lst .lst ?_ ?_) | fail)
local macro_rules | `(tactic| walk_at "sW2_1") => `(tactic| first
  | (with_reducible first
    | refine w2_add ?_ | refine w2_sub ?_ | refine w2_mul ⟨?_, ?_⟩ | refine w2_fdiv ⟨?_, ?_⟩ | refine w2_mod ⟨?_, ?_⟩ | refine w2_pow ⟨?_, ?_⟩ | refine w2_eqI ?_ | refine w2_neI ?_ | refine w2_lt ?_ | refine w2_le ?_ | refine w2_gt ?_ | refine w2_ge ?_ | refine w2_eqFI ?_ | refine w2_neFI ?_)
  | ((with_reducible refine w2_ixT (d := ?d) ⟨?hv, ?hk⟩); case hv => rfl)
  | ((with_reducible refine w2_ixL (d := ?d) ⟨?hv, ?hk⟩); case hv => rfl)
  | ((with_reducible refine w2_ixM (d := ?d) .head ⟨?hv, ?hk⟩); case hv => rfl)
  | (with_reducible first
    | refine w2_eqIH ?_ | refine w2_neIH ?_ | refine w2_mulH ⟨?_, ?_⟩ | refine w2_addH ?_ | refine w2_subH ?_ | refine w2_isN ?_ | refine w2_notN ?_ | refine w2_isB ?_ | refine w2_notB ?_)
  | walk_at "useW2_1")
local macro_rules | `(tactic| walk_at "sWa_1") => `(tactic| with_reducible first | refine wa_nil ?_ | refine wa_cons ?_)
local macro_rules | `(tactic| walk_at "useWs_1") => `(tactic| first | (with_reducible refine ws_rs0 ?_) | (with_reducible refine ws_rs ?_) | fail)
local macro_rules | `(tactic| walk_at "sWs_1") => `(tactic| first
  | (with_reducible first | refine ws_seq ?_ | refine ws_ret ?_ | refine ws_asg ?_ | refine ws_next ?_ | refine ws_drop ?_ | refine ws_par ?_ | refine ws_par3 ?_ | refine ws_fldN ?_ | refine ws_brk ?_ | refine ws_cont ?_)
  | walk_at "useWs_1")
local macro_rules | `(tactic| walk_at "sWt_1") => `(tactic| with_reducible first | refine wt_test ?_ | refine wt_tr ?_ | refine wt_and ?_ | refine wt_or ?_ | refine wt_not ?_)
local macro_rules | `(tactic| walk_at "useWc_1") => `(tactic| first
  | (with_reducible refine wc_len (SeqM.len (by assumption)) ?_) | (with_reducible refine wc_sumG ?_) | (with_reducible refine wc_sumI ?_) | (with_reducible refine wc_tupleL .tup ?_) | (with_reducible refine wc_tupleL .lst ?_) | (with_reducible refine wc_listF .tup ?_) | (with_reducible refine wc_listF .lst ?_) | fail)
local macro_rules | `(tactic| walk_at "sWc_1") => `(tactic| first
  | (with_reducible first | refine wc_int ?_ | refine wc_abs ?_ | refine wc_min ?_ | refine wc_gcd ?_ | refine wc_isiT .int kit_ii ?_ | refine wc_isiT .int kit_ib ?_ | refine wc_len .lst ?_ | refine wc_len .tup ?_ | refine wc_strI ?_ ?_)
  | walk_at "useWc_1")
local macro_rules | `(tactic| walk_at "sWi_1") => `(tactic| with_reducible first | refine wi_seq ?_ | refine wi_rng1S ?_ | refine wi_rng2 ?_ | refine wi_zipM ?_)
local macro_rules | `(tactic| walk_at "sWg_1") => `(tactic| with_reducible first | refine wg_name ?_ | refine wg_subM ?_ | refine wg_tup rfl ?_)
local macro_rules | `(tactic| walk_at "sW1_1") => `(tactic| first | (with_reducible refine w1_neg ?_) | walk_at "useW2_1")
local macro_rules | `(tactic| walk_at "sWgs_1") => `(tactic| with_reducible first | refine wgs_cons ?_ | refine wgs_nil ?_)
local macro_rules | `(tactic| walk_at "sS_1") => `(tactic| first | (with_reducible refine SlA.mk ?_ ?_) | (with_reducible refine RngA.mk ?_ ?_) | (with_reducible refine LcS.mk ?_ (fun a ha q => ?_) ?_) | (with_reducible exact LcL.mk rfl rfl) | fail)
local macro_rules | `(tactic| walk_at "use_1") => `(tactic| first | (with_reducible refine use_digit ?_ ?_ (by assumption) fun dg m' d0 d1 hpm => ?_) | (with_reducible refine use_base (by assumption) (by assumption) fun B m' hB hpm => ?_) | (with_reducible refine use_weight ?_ ?_ (by assumption) fun t b m' t0 t1 b0 b1 hpm => ?_) | (with_reducible refine ⟨_, _, _, _, rfl, (by assumption : PotM _ _ _), ?_⟩) | (with_reducible refine ⟨(by assumption : PotM _ _ _), ?_⟩) | fail)
local macro_rules | `(tactic| walk_at "sX_1") => `(tactic| first
  | (with_reducible refine ⟨_, rfl, ?_⟩)
  | (with_reducible refine fld_top (by assumption) ?_) | (with_reducible refine fld_bottom (by assumption) ?_)
  | (with_reducible refine ⟨_, .bl, ?_⟩)
  | ((with_reducible refine ⟨?h, ?_⟩); case h => rfl)
  | (with_reducible refine ⟨_, _, rfl, ?_⟩)
  | (with_reducible refine ⟨_, _, _, rfl, ?_⟩)
  | walk_at "use_1"
  | (with_reducible refine setN_top (by assumption) ?_) | (with_reducible refine setN_bottom (by assumption) ?_)
  | ((with_reducible refine ⟨_, _, _, ?j, _, rfl, rfl, .head, ?h, .head, ?_⟩); case h => rfl)
  | fail)
local macro_rules | `(tactic| walk_at "st_1") => `(tactic| first
  | ((with_reducible show We _ _ _ _ _ _); walk_at "sWe_1")
  | ((with_reducible show W2 _ _ _ _ _ _ _ _); walk_at "sW2_1")
  | ((with_reducible show Wa _ _ _ _ _ _); walk_at "sWa_1")
  | ((with_reducible show Ws _ _ _ _ _ _); walk_at "sWs_1")
  | ((with_reducible show Wt _ _ _ _ _ _); walk_at "sWt_1")
  | ((with_reducible show Wc _ _ _ _ _ _ _); walk_at "sWc_1")
  | ((with_reducible show Wi _ _ _ _ _ _); walk_at "sWi_1")
  | ((with_reducible show Wg _ _ _ _ _ _ _); walk_at "sWg_1")
  | ((with_reducible show W1 _ _ _ _ _ _ _); walk_at "sW1_1")
  | ((with_reducible show Wgs _ _ _ _ _ _ _); walk_at "sWgs_1")
  | walk_at "sS_1" | walk_at "sX_1" | fail)
local macro_rules | `(tactic| walk_at "br_1") => `(tactic| ((with_reducible refine ⟨fun hb => ?_, fun hb => ?_⟩) <;> (try simp only [decide_eq_true_eq, decide_eq_false_iff_not, Bool.not_eq_true', Bool.not_eq_false', Bool.and_eq_true, Bool.or_eq_true, reduceCtorEq, List.length_map, Bool.not_true, Bool.not_false, DL.isNon, not_true_eq_false, not_false_eq_true, Classical.not_not, List.all_cons, List.all_nil, id_eq, Bool.and_self, Bool.true_and, decide_true, decide_false] at hb)))
local macro_rules | `(tactic| walk_at "gn_1") => `(tactic| repeat' (first | walk_at "st_1" | walk_at "br_1" | fail))
theorem ok_rows (T : Txt G C_Ratio C_Load C_Book C_OutOfBounds) (c__law_digit : Cal G 1 "_law_digit" 2 S_digit []) (c__law_draw_weight : Cal G 2 "_law_draw_weight" 2 S_weight []) (c__law_draw_base : Cal G 2 "_law_draw_base" 3 S_base []) {f : Addr} {fd : FuncData} (F : L2.Fun G.K "_law_draw_rows" "_law_draw_rows" s__law_draw_rows f fd) (b : L2.Binds G.K fd ["pot", "signs", "width", "many"] []) : Fnx G 3 f 4 S_rows [] := by
  refine fnx_of F sc__law_draw_rows rfl b .nil rfl (fun cdv A outer s H FF hr tk => ⟨_, (pss_cons (ps_set (i := 4) sc__law_draw_rows.nd rfl (Or.inl rfl) (pe_cm (os_eqF hr tk) (pe_cl c__law_digit hr (by decide) tk rfl (pa_cons (pe_var (i := 0) rfl (Or.inl rfl) nd_pot.1 nd_pot.2) (pa_cons pe_int pa_nil))) pe_int (nomark _))) (pss_cons (ps_set (i := 5) sc__law_draw_rows.nd rfl (Or.inl rfl) (pe_cl c__law_draw_base hr (by decide) tk rfl (pa_cons (pe_var (i := 0) rfl (Or.inl rfl) nd_pot.1 nd_pot.2) (pa_cons (pe_var (i := 2) rfl (Or.inl rfl) nd_width.1 nd_width.2) (pa_cons (pe_var (i := 4) rfl (Or.inl rfl) nd_great.1 nd_great.2) pa_nil))))) (pss_cons (ps_set (i := 6) sc__law_draw_rows.nd rfl (Or.inl rfl) (pe_lst pa_nil)) (pss_cons (ps_for (passes_of rfl) rfl (pi_range1 rfl T.n_range (pa_cons (pe_var (i := 3) rfl (Or.inl rfl) nd_many.1 nd_many.2) pa_nil)) (pg_name (i := 7) sc__law_draw_rows.nd rfl (Or.inl rfl)) (pss_cons (ps_set (i := 8) sc__law_draw_rows.nd rfl (Or.inl rfl) (pe_ix ix_seq (pe_var (i := 5) rfl (Or.inl rfl) nd_base.1 nd_base.2) (pe_bin os_mod (pe_ct cs_int rfl T.n_int bt_int (pa_cons (pe_bin (os_add hr tk) (pe_cl c__law_digit hr (by decide) tk rfl (pa_cons (pe_var (i := 0) rfl (Or.inl rfl) nd_pot.1 nd_pot.2) (pa_cons (pe_cb cs_len rfl T.n_len bt_len (pa_cons (pe_var (i := 5) rfl (Or.inl rfl) nd_base.1 nd_base.2) pa_nil)) pa_nil))) (pe_var (i := 7) rfl (Or.inl rfl) nd_k.1 nd_k.2)) pa_nil)) (pe_cb cs_len rfl T.n_len bt_len (pa_cons (pe_var (i := 5) rfl (Or.inl rfl) nd_base.1 nd_base.2) pa_nil))) (fun _ _ => rfl))) (pss_cons (ps_set (i := 9) sc__law_draw_rows.nd rfl (Or.inr rfl) (pe_bin (os_sub hr tk) (pe_bin os_mod (pe_ct cs_int rfl T.n_int bt_int (pa_cons (pe_bin (os_add hr tk) (pe_bin (os_add hr tk) (pe_cl c__law_digit hr (by decide) tk rfl (pa_cons (pe_var (i := 0) rfl (Or.inl rfl) nd_pot.1 nd_pot.2) (pa_cons pe_int pa_nil))) (pe_bin (os_mul hr tk) pe_int (pe_var (i := 7) rfl (Or.inl rfl) nd_k.1 nd_k.2))) pe_int) pa_nil)) pe_int) pe_int)) (pss_cons (ps_if (pt_tr (pe_var (i := 4) rfl (Or.inl rfl) nd_great.1 nd_great.2)) (pss_one (ps_set (i := 9) sc__law_draw_rows.nd rfl (Or.inr rfl) (pe_bin (os_sub hr tk) (pe_bin os_mod (pe_ct cs_int rfl T.n_int bt_int (pa_cons (pe_bin (os_add hr tk) (pe_cl c__law_digit hr (by decide) tk rfl (pa_cons (pe_var (i := 0) rfl (Or.inl rfl) nd_pot.1 nd_pot.2) (pa_cons pe_int pa_nil))) (pe_bin (os_mul hr tk) pe_int (pe_var (i := 7) rfl (Or.inl rfl) nd_k.1 nd_k.2))) pa_nil)) pe_int) pe_int))) pss_nil) (pss_cons (ps_set (i := 10) sc__law_draw_rows.nd rfl (Or.inl rfl) (pe_cl c__law_draw_weight hr (by decide) tk rfl (pa_cons (pe_var (i := 0) rfl (Or.inl rfl) nd_pot.1 nd_pot.2) (pa_cons (pe_var (i := 7) rfl (Or.inl rfl) nd_k.1 nd_k.2) pa_nil)))) (pss_one (ps_expr (pe_bm PySem.F.plainAttrs_list PySem.F.slot_list_append PySem.F.type_list_append mt_append (pe_var (i := 6) rfl (Or.inl rfl) nd_rows.1 nd_rows.2) (pa_cons (pe_tup (pa_cons (pe_ix ix_seq (pe_var (i := 1) rfl (Or.inl rfl) nd_signs.1 nd_signs.2) (pe_var (i := 7) rfl (Or.inl rfl) nd_k.1 nd_k.2) (fun _ _ => rfl)) (pa_cons (pe_var (i := 10) rfl (Or.inl rfl) nd_pair.1 nd_pair.2) (pa_cons (pe_lc (own := [("x", 11)]) (g := (gName 11)) (tt := tYes) rfl sc__law_draw_rows.nd (pi_seqK (KK := G.K) (by rfl) (pe_var (i := 8) rfl (Or.inl rfl) nd_line.1 nd_line.2)) (blkOk_by (N := N__law_draw_rows) (sc := (defScope s__law_draw_rows)) (by decide +kernel)) (fun _ _ _ _ _ => (pg_name (i := 11) sc__law_draw_rows.nd rfl (Or.inl rfl))) (fun _ _ _ _ _ => pts_nil) (fun _ _ _ _ _ => (pe_bin (o := oMul G _ wNo) (os_mul (by exact hr) takes0N) (pe_var (i := 9) rfl (Or.inr (Or.inl rfl)) nd_factor.1 nd_factor.2) (pe_var (i := 11) rfl (Or.inl rfl) nd_x.1 nd_x.2)))) pa_nil)))) pa_nil))))))))) (pss_cons (ps_if (PW.pt (pw_and (pt_cm os_gt (pe_var (i := 3) rfl (Or.inl rfl) nd_many.1 nd_many.2) pe_int (nomark _)) (pw_and1 (pt_cm (os_eqF hr tk) (pe_cl c__law_digit hr (by decide) tk rfl (pa_cons (pe_var (i := 0) rfl (Or.inl rfl) nd_pot.1 nd_pot.2) (pa_cons pe_int pa_nil))) pe_int (nomark _))))) (pss_cons (ps_set (i := 12) sc__law_draw_rows.nd rfl (Or.inl rfl) (pe_cl c__law_digit hr (by decide) tk rfl (pa_cons (pe_var (i := 0) rfl (Or.inl rfl) nd_pot.1 nd_pot.2) (pa_cons (pe_var (i := 3) rfl (Or.inl rfl) nd_many.1 nd_many.2) pa_nil)))) (pss_cons (ps_set (i := 13) sc__law_draw_rows.nd rfl (Or.inl rfl) (pe_bin (os_add hr tk) pe_int (pe_cl c__law_digit hr (by decide) tk rfl (pa_cons (pe_var (i := 0) rfl (Or.inl rfl) nd_pot.1 nd_pot.2) (pa_cons (pe_bin (os_powF hr tk) pe_int pe_int) pa_nil))))) (pss_cons (ps_set (i := 14) sc__law_draw_rows.nd rfl (Or.inl rfl) (pe_bin (os_add hr tk) pe_int (pe_cl c__law_digit hr (by decide) tk rfl (pa_cons (pe_var (i := 0) rfl (Or.inl rfl) nd_pot.1 nd_pot.2) (pa_cons (pe_bin (os_powF hr tk) pe_int pe_int) pa_nil))))) (pss_one (ps_asg (pe_tup (pa_cons (pe_ix ix_seq (pe_ix ix_seq (pe_var (i := 6) rfl (Or.inl rfl) nd_rows.1 nd_rows.2) (pe_var (i := 12) rfl (Or.inl rfl) nd_at.1 nd_at.2) (fun _ _ => rfl)) pe_int (fun _ _ => rfl)) (pa_cons (pe_tup (pa_cons (pe_var (i := 13) rfl (Or.inl rfl) nd_top.1 nd_top.2) (pa_cons (pe_var (i := 14) rfl (Or.inl rfl) nd_bottom.1 nd_bottom.2) pa_nil))) (pa_cons (pe_ix ix_seq (pe_ix ix_seq (pe_var (i := 6) rfl (Or.inl rfl) nd_rows.1 nd_rows.2) (pe_var (i := 12) rfl (Or.inl rfl) nd_at.1 nd_at.2) (fun _ _ => rfl)) pe_int (fun _ _ => rfl)) pa_nil)))) (pg_sub (pe_var (i := 6) rfl (Or.inl rfl) nd_rows.1 nd_rows.2) (pe_var (i := 12) rfl (Or.inl rfl) nd_at.1 nd_at.2) set_list)))))) pss_nil) (pss_one (ps_ret (pe_var (i := 6) rfl (Or.inl rfl) nd_rows.1 nd_rows.2)))))))), ?_⟩)
  rintro ds m K E - ⟨p, L, w, n, m0, rfl, hL, hw, hn, hm, kk⟩
  show Ws _ _ _ [some (.ref p), some (.lst (L.map ts)), some (.int (w : Nat)), some (.int (n : Nat)), none, none, none, none, none, none, none, none, none, none, none] _ _
  dsimp only [cx_G, cx_K]
  walk_at "gn_1"
  all_goals try first | decide | exact bd_lit (by decide)
  rename_i dg m1 d0 d1 hm1 B m2 hB hm2
  generalize decide (dg = 5) = g at *
  refine we_lstM (wa_nil ⟨rfl, fun q hf => wg_name ?_⟩)
  refine PotM.sw hm2 fun m3 hm3 => ?_
  walk_at "gn_1"
  refine ws_range1 ?_
  walk_at "gn_1"
  let RR : Option D → Option D → Option D → Option D → Option D → Rho := fun o7 o8 o9 o10 o12 => [some (.ref p), some (.lst (L.map ts)), some (.int (w : Nat)), some (.int (n : Nat)), some (.bl g), some (lli B), some (.ref q), o7, o8, o9, o10, none, o12, none, none]
  have hB1 := hB.n1
  have hB2 := hB.n2
  have lenB : ((B.map li).length : Nat) = B.length := List.length_map ..
  have lenL := hL.len
  refine ⟨_, fun k r' m' => ∃ (R : List Rw) (o7 o8 o9 o10 : Option D), R.length = k ∧ R.map (·.lab) = L.take k ∧ (∀ a ∈ R, RowOk w a) ∧ r' = RR o7 o8 o9 o10 none ∧ PotM p ((q, .lst (R.map rwD)) :: m0) m', rfl, by omega, ⟨[], none, none, none, none, rfl, rfl, fun _ h => (nomatch h), rfl, hm3⟩, ?_, ?_⟩
  · rintro k r' m' hk ⟨R, o7, o8, o9, o10, hR, hlab, hok, rfl, hmR⟩
    have hk2 : k < n := by omega
    walk_at "gn_1"
    all_goals try rw [lenB]
    all_goals try first | omega | (unfold Bd; refine Nat.lt_of_lt_of_le (m := 2 ^ 10) (by omega) (Nat.pow_le_pow_right (by decide) (by decide)))
    rename_i u m4 u0 u1 hm4
    rw [lenB] at u1
    obtain ⟨u, rfl⟩ := Int.eq_ofNat_of_zero_le u0
    have hi : (u + k) % B.length < B.length := Nat.mod_lt _ (by omega)
    have ei : ((u : Int) + (k : Int)).fmod (B.length : Int) = (((u + k) % B.length : Nat) : Int) := by
      rw [fm (by omega)]
      push_cast
      rfl
    rw [ei]
    refine w2_ixL ⟨ix_map hi, ?_⟩
    have lm : B[(u + k) % B.length]! ∈ B := by
      rw [getElem!_pos B _ hi]
      exact List.getElem_mem _
    generalize B[(u + k) % B.length]! = ln at *
    have lw := hB.wid _ lm
    have lb := hB.bd _ lm
    walk_at "gn_1"
    all_goals try first | decide | exact bd_lit (by decide) | exact cm (by decide) (by omega)
    rename_i v m5 v0 v1 hm5
    refine Ws.cut (fun r' m' => ∃ fc, -(fbd g) ≤ fc ∧ fc ≤ fbd g ∧ r' = RR (some (.int (k : Nat))) (some (li ln)) (some (.int fc)) o10 none ∧ PotM p ((q, .lst (R.map rwD)) :: m0) m') ?_ ?_
    · refine ws_if ?_
      cases g
      · walk_at "gn_1"
        refine ⟨_, ?_, ?_, rfl, hm5⟩
        all_goals rw [fm (by decide)]; simp only [fbd]; omega
      · walk_at "gn_1"
        all_goals try first | decide | exact bd_lit (by decide) | exact cm (by decide) (by omega)
        refine ⟨_, ?_, ?_, rfl, ‹_›⟩
        all_goals rw [fm (by decide)]; simp only [fbd]; omega
    rintro r' m' ⟨fc, f0, f1, rfl, hm6⟩
    walk_at "gn_1"
    all_goals try omega
    rename_i t b m7 t0 t1 b0 b1 hm7
    have lk : L[k]? = some L[k]! := by
      rw [List.getElem?_eq_getElem (h := by omega), getElem!_pos L k (by omega)]
    have lkm : L[k]! ∈ L := List.mem_of_getElem? lk
    refine we_lcs (α := Int) D.int (fun x => .int (fc * x)) (gk_name rfl) (wi_seq (we_var (d := li ln) (i := 8) rfl ⟨[], _, .lst, ln, rfl, LcS.mk (Nat.ble_eq_true_of_le (by omega)) (fun x hx qq => wg_name ?_) ?_⟩))
    · have h := lb x hx
      have h9 := fx_bd f0 f1 h.1 h.2
      have fs : (fbd g) ≤ 101 := by cases g <;> decide
      have bs : (bnd g) ≤ 99 := by cases g <;> decide
      walk_at "gn_1"
      exact cm (by omega) (by omega)
    · walk_at "gn_1"
      refine ⟨by rw [List.length_map]; omega, fun m8 hm8 => ⟨R ++ [⟨L[k]!, t, b, ln.map fun x => fc * x⟩], _, _, _, _, by rw [List.length_append, hR]; rfl, by rw [List.map_append, hlab, List.take_add_one, lk]; rfl, fun a ha => ?_, rfl, ?_⟩⟩
      · rcases List.mem_append.mp ha with z | z
        · exact hok _ z
        · rw [List.mem_singleton.mp z]
          refine ⟨hL.ok _ lkm, t0, by show t ≤ _; omega, b0, by show b ≤ _; omega, by show (ln.map _).length = w; rw [List.length_map, lw], fun y hy => ?_⟩
          obtain ⟨x, hx, rfl⟩ := List.mem_map.mp hy
          have h := lb x hx
          exact fx_bd f0 f1 h.1 h.2
      · rw [List.map_append]
        have e : rwD ⟨L[k]!, t, b, ln.map fun x => fc * x⟩ = .tup [ts L[k]!, .tup [.int t, .int b], .lst (ln.map fun x => .int (fc * x))] := by
          unfold rwD li
          rw [List.map_map]
          rfl
        rw [List.map_cons, e]
        exact hm8
  · rintro r' m' ⟨R, o7, o8, o9, o10, hR, hlab, hok, rfl, hmR⟩
    rw [show ((n : Nat) : Int).toNat = n by omega] at hR hlab
    have ndl : ∀ R' : List Rw, R'.map (·.lab) = R.map (·.lab) → (R'.map (·.lab)).Nodup := fun R' e => by
      rw [e, hlab]
      exact (List.take_sublist _ _).nodup hL.nd
    walk_at "gn_1"
    refine Ws.cut (fun r' m' => ∃ (R' : List Rw) (o12 o13 o14 : Option D), R'.map (·.lab) = R.map (·.lab) ∧ (∀ a ∈ R', RowOk w a) ∧ r' = [some (.ref p), some (.lst (L.map ts)), some (.int (w : Nat)), some (.int (n : Nat)), some (.bl g), some (lli B), some (.ref q), o7, o8, o9, o10, none, o12, o13, o14] ∧ PotM p ((q, .lst (R'.map rwD)) :: m0) m') ?_ ?_
    · refine ws_if ?_
      walk_at "gn_1"
      all_goals try first | decide | exact bd_lit (by decide) | omega
      · unfold Bd
        refine Nat.lt_of_lt_of_le (m := 2 ^ 10) (by omega) (Nat.pow_le_pow_right (by decide) (by decide))
      · rename_i dgz mz dz0 dz1 hmz dg5 at_ m10 a0 a1 hm10
        have cp : CPow 10 6 := by
          unfold CPow
          decide
        have e6 : (10 : Int) ^ (6 : Int).toNat = 1000000 := by decide
        refine w2_powF ⟨cp, ?_⟩
        rw [e6]
        walk_at "gn_1"
        all_goals try first | decide | exact bd_lit (by decide)
        refine w2_powF ⟨cp, ?_⟩
        rw [e6]
        walk_at "gn_1"
        all_goals try first | decide | exact bd_lit (by decide)
        rename_i tp m11 tp0 tp1 hm11 bt m12 bt0 bt1 hm12
        obtain ⟨at_, rfl⟩ := Int.eq_ofNat_of_zero_le a0
        have hat : at_ < R.length := by omega
        have ra : R[at_]? = some R[at_] := List.getElem?_eq_getElem (h := hat)
        have ax : atI (R.map rwD) (at_ : Int) = some (rwD R[at_]) := atI_nat (by rw [List.getElem?_map, ra]; rfl)
        have rok := hok _ (List.getElem_mem hat)
        generalize R[at_] = a at *
        obtain ⟨cs, i, rr, rfl, ec⟩ := hm12
        refine w2_ixM (.tail .head) ⟨ax, ?_⟩
        walk_at "gn_1"
        refine w2_ixM (.tail .head) ⟨ax, ?_⟩
        walk_at "gn_1"
        refine ⟨q, _, _, at_, _, rfl, rfl, .tail .head, ixN_natL (by rw [List.length_map]; exact hat), .tail .head, ?_⟩
        refine ⟨R.set at_ ⟨a.lab, 1 + tp, 1 + bt, a.nums⟩, _, _, _, ?_, fun z hz => ?_, rfl, ⟨cs, i, rr, ?_, ec⟩⟩
        · rw [List.map_set]
          refine List.ext_getElem? fun j => ?_
          rw [List.getElem?_set]
          split
          · rename_i e
            subst e
            rw [List.getElem?_map, ra]
            rw [List.length_map, if_pos hat]
            rfl
          · rfl
        · rcases List.mem_or_eq_of_mem_set hz with z' | z'
          · exact hok _ z'
          · rw [z']
            exact ⟨rok.lab, by show 1 ≤ 1 + tp; omega, by show 1 + tp ≤ _; omega, by show 1 ≤ 1 + bt; omega, by show 1 + bt ≤ _; omega, rok.wid, rok.nb⟩
        · rw [List.map_set]
      · exact ⟨R, _, _, _, rfl, hok, rfl, ‹_›⟩
      · exact ⟨R, _, _, _, rfl, hok, rfl, hmR⟩
    · rintro r' m' ⟨R', o12, o13, o14, hl, ho, rfl, hm9⟩
      refine PotM.fz (s := 6) rfl hm9 fun m4 hm4 => ?_
      walk_at "gn_1"
      have e : R'.length = n := by
        have := congrArg List.length hl
        rw [List.length_map, List.length_map] at this
        omega
      exact kk R' _ e ⟨by omega, ho, ndl _ hl⟩ hm4
end
end K22
set_option Elab.async false
set_option linter.all false
set_option maxRecDepth 100000
set_option maxHeartbeats 4000000
namespace K22
open PySem PySem.Spec L2 DL
open PyProof.Rows hiding St
open SX (S)
/-! one step, by the goal's head -/

/-! Ratio and Span by numbers: their promises used -/

/-! comprehensions, sums, lists of others -/

section
variable {G : Gx} {C_Ratio C_Load C_Book C_OutOfBounds : Addr}
structure WayOk (w : Nat) (y : List Int) : Prop where
  len : y.length = w
  bd : ∀ x ∈ y, Bd 110 x
theorem all_get {w : Nat} {xs : List Int} {P : Int → Prop} (hl : xs.length = w) (hx : ∀ i, i < w → P xs[i]!) : ∀ x ∈ xs, P x := fun x h => by
  obtain ⟨i, hi, rfl⟩ := List.mem_iff_getElem.mp h
  have := hx i (by omega)
  rw [getElem!_pos xs i hi] at this
  exact this
def S_way : SpecD := fun ds m K _ => ∃ p w m0, ds = [.ref p, .int (w : Nat)] ∧ 1 ≤ w ∧ w ≤ 12 ∧ PotM p m0 m ∧ ∀ y m', WayOk w y → PotM p m0 m' → K (li y) m'
theorem use_way {p : Addr} {w : Nat} {m m0 : Mu} {K : KT} {E : Ex → Mu → Prop} (h0 : 1 ≤ w) (hw : w ≤ 12) (hm : PotM p m0 m) (k : ∀ y m', WayOk w y → PotM p m0 m' → K (li y) m') : S_way [.ref p, .int (w : Nat)] m K E := ⟨p, w, m0, rfl, h0, hw, hm, k⟩
local macro_rules | `(tactic| walk_at "fld_1") => `(tactic| (with_reducible refine we_fldF ?_))
local macro_rules | `(tactic| walk_at "useWe_1") => `(tactic| fail)
local macro_rules | `(tactic| walk_at "sWe_1") => `(tactic| first
  | ((with_reducible refine we_var (d := ?d) ?hv ?hk); case hv => rfl)
  | (with_reducible first
    | refine we_cint ?_ | refine we_2 ?_ | refine we_cl0 ?_ | refine we_tup ?_ | refine we_1 ?_ | refine we_c2 ?_ | refine we_cbl ?_ | refine we_cnon ?_ | refine we_cty ?_ | refine we_cref ?_
    | refine we_op ?_ | refine we_andV ?_ | refine we_orV ?_ | refine we_notV ?_ | refine we_3 ?_ | refine we_ifx ?_ | refine we_cstr ?_ | refine we_clH ?_)
  | walk_at "fld_1"
  | walk_at "useWe_1")
local macro_rules | `(tactic| walk_at "useW2_1") => `(tactic| first
  | (with_reducible refine w2_eqRN ?_) | (with_reducible refine w2_eqLN ?_) | (with_reducible refine w2_eqLli ?_) | (with_reducible refine w2_eqLi ?_)
  | (with_reducible refine w2_ixT ⟨ix_map0 ?_, ?_⟩) | (with_reducible refine w2_ixL ⟨ix_map0 ?_, ?_⟩) | (with_reducible refine w2_ixT ⟨ix_map ?_, ?_⟩) | (with_reducible refine w2_ixL ⟨ix_map ?_, ?_⟩)
  | (with_reducible refine w2_addO (by assumption) (by decide) .fixed .fixed ?_) | (with_reducible refine w2_subO (by assumption) (by decide) .fixed .fixed ?_) | (with_reducible refine w2_mulO (by assumption) (by decide) .fixed .fixed ?_) | (with_reducible refine w1_negO (by assumption) (by decide) .fixed ?_)
  | (with_reducible refine w2_catL .lst .lst ?_ ?_) | fail)
local macro_rules | `(tactic| walk_at "sW2_1") => `(tactic| first
  | (with_reducible first
    | refine w2_add ?_ | refine w2_sub ?_ | refine w2_mul ⟨?_, ?_⟩ | refine w2_fdiv ⟨?_, ?_⟩ | refine w2_mod ⟨?_, ?_⟩ | refine w2_pow ⟨?_, ?_⟩ | refine w2_eqI ?_ | refine w2_neI ?_ | refine w2_lt ?_ | refine w2_le ?_ | refine w2_gt ?_ | refine w2_ge ?_ | refine w2_eqFI ?_ | refine w2_neFI ?_)
  | ((with_reducible refine w2_ixT (d := ?d) ⟨?hv, ?hk⟩); case hv => rfl)
  | ((with_reducible refine w2_ixL (d := ?d) ⟨?hv, ?hk⟩); case hv => rfl)
  | ((with_reducible refine w2_ixM (d := ?d) .head ⟨?hv, ?hk⟩); case hv => rfl)
  | (with_reducible first
    | refine w2_eqIH ?_ | refine w2_neIH ?_ | refine w2_mulH ⟨?_, ?_⟩ | refine w2_addH ?_ | refine w2_subH ?_ | refine w2_isN ?_ | refine w2_notN ?_ | refine w2_isB ?_ | refine w2_notB ?_)
  | walk_at "useW2_1")
local macro_rules | `(tactic| walk_at "sWa_1") => `(tactic| with_reducible first | refine wa_nil ?_ | refine wa_cons ?_)
local macro_rules | `(tactic| walk_at "useWs_1") => `(tactic| first | (with_reducible refine ws_rs0 ?_) | (with_reducible refine ws_rs ?_) | fail)
local macro_rules | `(tactic| walk_at "sWs_1") => `(tactic| first
  | (with_reducible first | refine ws_seq ?_ | refine ws_ret ?_ | refine ws_asg ?_ | refine ws_next ?_ | refine ws_drop ?_ | refine ws_par ?_ | refine ws_par3 ?_ | refine ws_fldN ?_ | refine ws_brk ?_ | refine ws_cont ?_)
  | walk_at "useWs_1")
local macro_rules | `(tactic| walk_at "sWt_1") => `(tactic| with_reducible first | refine wt_test ?_ | refine wt_tr ?_ | refine wt_and ?_ | refine wt_or ?_ | refine wt_not ?_)
local macro_rules | `(tactic| walk_at "useWc_1") => `(tactic| first
  | (with_reducible refine wc_len (SeqM.len (by assumption)) ?_) | (with_reducible refine wc_sumG ?_) | (with_reducible refine wc_sumI ?_) | (with_reducible refine wc_tupleL .tup ?_) | (with_reducible refine wc_tupleL .lst ?_) | (with_reducible refine wc_listF .tup ?_) | (with_reducible refine wc_listF .lst ?_) | fail)
local macro_rules | `(tactic| walk_at "sWc_1") => `(tactic| first
  | (with_reducible first | refine wc_int ?_ | refine wc_abs ?_ | refine wc_min ?_ | refine wc_gcd ?_ | refine wc_isiT .int kit_ii ?_ | refine wc_isiT .int kit_ib ?_ | refine wc_len .lst ?_ | refine wc_len .tup ?_ | refine wc_strI ?_ ?_)
  | walk_at "useWc_1")
local macro_rules | `(tactic| walk_at "sWi_1") => `(tactic| with_reducible first | refine wi_seq ?_ | refine wi_rng1S ?_ | refine wi_rng2 ?_ | refine wi_zipM ?_)
local macro_rules | `(tactic| walk_at "sWg_1") => `(tactic| with_reducible first | refine wg_name ?_ | refine wg_subM ?_ | refine wg_tup rfl ?_)
local macro_rules | `(tactic| walk_at "sW1_1") => `(tactic| first | (with_reducible refine w1_neg ?_) | walk_at "useW2_1")
local macro_rules | `(tactic| walk_at "sWgs_1") => `(tactic| with_reducible first | refine wgs_cons ?_ | refine wgs_nil ?_)
local macro_rules | `(tactic| walk_at "sS_1") => `(tactic| first | (with_reducible refine SlA.mk ?_ ?_) | (with_reducible refine RngA.mk ?_ ?_) | (with_reducible refine LcS.mk ?_ (fun a ha q => ?_) ?_) | (with_reducible exact LcL.mk rfl rfl) | fail)
local macro_rules | `(tactic| walk_at "use_1") => `(tactic| first | (with_reducible refine use_digit ?_ ?_ (by assumption) fun dg m' d0 d1 hpm => ?_) | fail)
local macro_rules | `(tactic| walk_at "sX_1") => `(tactic| first
  | (with_reducible refine ⟨_, rfl, ?_⟩)
  | (with_reducible refine fld_top (by assumption) ?_) | (with_reducible refine fld_bottom (by assumption) ?_)
  | (with_reducible refine ⟨_, .bl, ?_⟩)
  | ((with_reducible refine ⟨?h, ?_⟩); case h => rfl)
  | (with_reducible refine ⟨_, _, rfl, ?_⟩)
  | (with_reducible refine ⟨_, _, _, rfl, ?_⟩)
  | walk_at "use_1"
  | (with_reducible refine setN_top (by assumption) ?_) | (with_reducible refine setN_bottom (by assumption) ?_)
  | ((with_reducible refine ⟨_, _, _, ?j, _, rfl, rfl, .head, ?h, .head, ?_⟩); case h => rfl)
  | fail)
local macro_rules | `(tactic| walk_at "st_1") => `(tactic| first
  | ((with_reducible show We _ _ _ _ _ _); walk_at "sWe_1")
  | ((with_reducible show W2 _ _ _ _ _ _ _ _); walk_at "sW2_1")
  | ((with_reducible show Wa _ _ _ _ _ _); walk_at "sWa_1")
  | ((with_reducible show Ws _ _ _ _ _ _); walk_at "sWs_1")
  | ((with_reducible show Wt _ _ _ _ _ _); walk_at "sWt_1")
  | ((with_reducible show Wc _ _ _ _ _ _ _); walk_at "sWc_1")
  | ((with_reducible show Wi _ _ _ _ _ _); walk_at "sWi_1")
  | ((with_reducible show Wg _ _ _ _ _ _ _); walk_at "sWg_1")
  | ((with_reducible show W1 _ _ _ _ _ _ _); walk_at "sW1_1")
  | ((with_reducible show Wgs _ _ _ _ _ _ _); walk_at "sWgs_1")
  | walk_at "sS_1" | walk_at "sX_1" | fail)
local macro_rules | `(tactic| walk_at "br_1") => `(tactic| ((with_reducible refine ⟨fun hb => ?_, fun hb => ?_⟩) <;> (try simp only [decide_eq_true_eq, decide_eq_false_iff_not, Bool.not_eq_true', Bool.not_eq_false', Bool.and_eq_true, Bool.or_eq_true, reduceCtorEq, List.length_map, Bool.not_true, Bool.not_false, DL.isNon, not_true_eq_false, not_false_eq_true, Classical.not_not, List.all_cons, List.all_nil, id_eq, Bool.and_self, Bool.true_and, decide_true, decide_false] at hb)))
local macro_rules | `(tactic| walk_at "gn_1") => `(tactic| repeat' (first | walk_at "st_1" | walk_at "br_1" | fail))
theorem ok_way (T : Txt G C_Ratio C_Load C_Book C_OutOfBounds) (c__law_digit : Cal G 1 "_law_digit" 2 S_digit []) {f : Addr} {fd : FuncData} (F : L2.Fun G.K "_law_draw_direction" "_law_draw_direction" s__law_draw_direction f fd) (b : L2.Binds G.K fd ["pot", "width"] []) : Fnx G 2 f 2 S_way [] := by
  refine fnx_of F sc__law_draw_direction rfl b .nil rfl (fun cdv A outer s H FF hr tk => ⟨_, (pss_cons (ps_set (i := 2) sc__law_draw_direction.nd rfl (Or.inl rfl) (pe_cl c__law_digit hr (by decide) tk rfl (pa_cons (pe_var (i := 0) rfl (Or.inr (Or.inl rfl)) nd_pot.1 nd_pot.2) (pa_cons pe_int pa_nil)))) (pss_cons (ps_if (pt_cm (os_eqF hr tk) (pe_var (i := 2) rfl (Or.inl rfl) nd_kind.1 nd_kind.2) pe_int (nomark _)) (pss_one (ps_ret (pe_lc (own := [("j", 3)]) (g := (gName 3)) (tt := tYes) rfl sc__law_draw_direction.nd (pi_range1 rfl T.n_range (pa_cons (pe_var (i := 1) rfl (Or.inl rfl) nd_width.1 nd_width.2) pa_nil)) (blkOk_by (N := N__law_draw_direction) (sc := (defScope s__law_draw_direction)) (by decide +kernel)) (fun _ _ _ _ _ => (pg_name (i := 3) sc__law_draw_direction.nd rfl (Or.inl rfl))) (fun _ _ _ _ _ => pts_nil) (fun _ _ _ _ _ => (pe_bin (o := oSub G _ wNo) (os_sub (by exact hr) takes0N) (pe_cl c__law_digit hr (by decide) takes0N rfl (pa_cons (pe_var (i := 0) rfl (Or.inr (Or.inl rfl)) nd_pot.1 nd_pot.2) (pa_cons pe_int pa_nil))) pe_int))))) pss_nil) (pss_cons (ps_if (pt_cm os_lt (pe_var (i := 2) rfl (Or.inl rfl) nd_kind.1 nd_kind.2) pe_int (nomark _)) (pss_one (ps_ret (pe_lc (own := [("j", 3)]) (g := (gName 3)) (tt := tYes) rfl sc__law_draw_direction.nd (pi_range1 rfl T.n_range (pa_cons (pe_var (i := 1) rfl (Or.inl rfl) nd_width.1 nd_width.2) pa_nil)) (blkOk_by (N := N__law_draw_direction) (sc := (defScope s__law_draw_direction)) (by decide +kernel)) (fun _ _ _ _ _ => (pg_name (i := 3) sc__law_draw_direction.nd rfl (Or.inl rfl))) (fun _ _ _ _ _ => pts_nil) (fun _ _ _ _ _ => (pe_bin (o := oSub G _ wNo) (os_sub (by exact hr) takes0N) (pe_bin os_mod (pe_ct cs_int rfl T.n_int bt_int (pa_cons (pe_bin (o := oAdd G _ wNo) (os_add (by exact hr) takes0N) (pe_bin (o := oAdd G _ wNo) (os_add (by exact hr) takes0N) (pe_cl c__law_digit hr (by decide) takes0N rfl (pa_cons (pe_var (i := 0) rfl (Or.inr (Or.inl rfl)) nd_pot.1 nd_pot.2) (pa_cons pe_int pa_nil))) (pe_bin (o := oMul G _ wNo) (os_mul (by exact hr) takes0N) pe_int (pe_var (i := 3) rfl (Or.inl rfl) nd_j.1 nd_j.2))) pe_int) pa_nil)) pe_int) pe_int))))) pss_nil) (pss_cons (ps_setLc (i := 4) (own := [("j", 3)]) (g := (gName 3)) (tt := tYes) rfl sc__law_draw_direction.nd rfl rfl (sw_true rfl rfl rfl (by decide +kernel)) (pi_range1 rfl T.n_range (pa_cons (pe_var (i := 1) rfl (Or.inl rfl) nd_width.1 nd_width.2) pa_nil)) (blkOk_by (N := N__law_draw_direction) (sc := (defScope s__law_draw_direction)) (by decide +kernel)) (fun _ _ _ _ _ => (pg_name (i := 3) sc__law_draw_direction.nd rfl (Or.inl rfl))) (fun _ _ _ _ _ => pts_nil) (fun _ _ _ _ _ => pe_int)) (pss_cons (ps_set (i := 5) sc__law_draw_direction.nd rfl (Or.inl rfl) (pe_cl c__law_digit hr (by decide) tk rfl (pa_cons (pe_var (i := 0) rfl (Or.inr (Or.inl rfl)) nd_pot.1 nd_pot.2) (pa_cons (pe_var (i := 1) rfl (Or.inl rfl) nd_width.1 nd_width.2) pa_nil)))) (pss_cons (ps_asg (pe_bin (os_sub hr tk) (pe_cl c__law_digit hr (by decide) tk rfl (pa_cons (pe_var (i := 0) rfl (Or.inr (Or.inl rfl)) nd_pot.1 nd_pot.2) (pa_cons pe_int pa_nil))) pe_int) (pg_sub (pe_var (i := 4) rfl (Or.inl rfl) nd_found.1 nd_found.2) (pe_var (i := 5) rfl (Or.inl rfl) nd_at.1 nd_at.2) set_list)) (pss_cons (ps_if (pt_cm (os_eqF hr tk) (pe_var (i := 2) rfl (Or.inl rfl) nd_kind.1 nd_kind.2) pe_int (nomark _)) (pss_one (ps_asg (pe_bin (os_add hr tk) pe_int (pe_cl c__law_digit hr (by decide) tk rfl (pa_cons (pe_var (i := 0) rfl (Or.inr (Or.inl rfl)) nd_pot.1 nd_pot.2) (pa_cons (pe_bin (os_powF hr tk) pe_int pe_int) pa_nil)))) (pg_sub (pe_var (i := 4) rfl (Or.inl rfl) nd_found.1 nd_found.2) (pe_var (i := 5) rfl (Or.inl rfl) nd_at.1 nd_at.2) set_list))) pss_nil) (pss_one (ps_ret (pe_var (i := 4) rfl (Or.inl rfl) nd_found.1 nd_found.2)))))))))), ?_⟩)
  rintro ds m K E - ⟨p, w, m0, rfl, w0, w1, hm, kk⟩
  show Ws _ _ _ [some (.ref p), some (.int (w : Nat)), none, none, none, none] _ _
  dsimp only [cx_G, cx_K]
  walk_at "gn_1"
  all_goals try first | decide | exact bd_lit (by decide)
  rename_i kd m1 k0 k1 hm1
  refine ws_if ?_
  walk_at "gn_1"
  · refine we_lcDraw (n := w) (fun _ x => Bd 110 x) rfl hm1 rfl (by omega) ?_ ?_
    · intro i hi mm m' hp
      walk_at "gn_1"
      all_goals try first | decide | exact bd_lit (by decide)
      exact ⟨(show Bd 20 _ by unfold Bd; omega).mono (by decide), ‹_›⟩
    · intro xs m' hl hx hp
      exact kk xs m' ⟨hl, all_get hl hx⟩ hp
  refine ws_if ?_
  walk_at "gn_1"
  · refine we_lcDraw (n := w) (fun _ x => Bd 110 x) rfl hm1 rfl (by omega) ?_ ?_
    · intro i hi mm m' hp
      walk_at "gn_1"
      all_goals try first | decide | exact bd_lit (by decide) | exact cm (by decide) (by omega)
      refine ⟨?_, ‹_›⟩
      rw [fm (by decide)]
      exact (show Bd 20 _ by unfold Bd; omega).mono (by decide)
    · intro xs m' hl hx hp
      exact kk xs m' ⟨hl, all_get hl hx⟩ hp
  refine we_lcM (α := Nat) (fun i => .int (i : Nat)) (fun _ => .int 0) (gk_name rfl) (wi_rng1S (wa_cons (we_var (i := 1) rfl (wa_nil ⟨_, rfl, RngA.mk (rngB (by omega)) ⟨List.range w, by rw [show ((w : Nat) : Int).toNat = w by omega], LcS.mk (Nat.ble_eq_true_of_le (by rw [List.length_range]; omega)) (fun k hk q => wg_name ?_) fun q hq => wg_name ?_⟩⟩))))
  · walk_at "gn_1"
  have e0 : (List.range w).map (fun _ => D.int 0) = (List.replicate w (0 : Int)).map D.int := by
    rw [List.map_replicate]
    exact (List.map_const' ..).trans (by rw [List.length_range])
  rw [e0]
  refine PotM.sw hm1 fun m2 hm2 => ?_
  walk_at "gn_1"
  all_goals try first | decide | exact bd_lit (by decide) | omega | (unfold Bd; refine Nat.lt_of_lt_of_le (m := 2 ^ 10) (by omega) (Nat.pow_le_pow_right (by decide) (by decide)))
  rename_i a m3 a0 a1 hm3 u m4 u0 u1 hm4
  obtain ⟨a, rfl⟩ := Int.eq_ofNat_of_zero_le a0
  obtain ⟨cs, i, rr, rfl, ec⟩ := hm4
  have set0 : ∀ (l : List Int) (x : Int), WayOk w l → Bd 110 x → WayOk w (l.set a x) := fun l x h hx => ⟨by rw [List.length_set]; exact h.len, fun z hz => by
    rcases List.mem_or_eq_of_mem_set hz with z' | z'
    · exact h.bd _ z'
    · rw [z']
      exact hx⟩
  have w0' : WayOk w (List.replicate w (0 : Int)) := ⟨List.length_replicate, fun x hx => by rw [(List.mem_replicate.mp hx).2]; exact bd_lit (by decide)⟩
  have w1' := set0 _ (u - 2) w0' ((show Bd 20 (u - 2) by unfold Bd; omega).mono (by decide))
  refine ⟨q, _, _, a, _, rfl, rfl, .tail .head, ixN_natL (by rw [List.length_map, List.length_replicate]; omega), .tail .head, ?_⟩
  rw [← List.map_set]
  have hm5 : PotM p ((q, .lst (((List.replicate w (0 : Int)).set a (u - 2)).map D.int)) :: m0) ((p, .lst [.lst (cs.map D.int), .int i, .int rr]) :: (q, .lst (((List.replicate w (0 : Int)).set a (u - 2)).map D.int)) :: m0) := ⟨cs, i, rr, rfl, ec⟩
  generalize (List.replicate w (0 : Int)).set a (u - 2) = l1 at *
  generalize (p, MO.lst [.lst (cs.map D.int), .int i, .int rr]) :: (q, .lst (l1.map D.int)) :: m0 = m6 at *
  walk_at "gn_1"
  refine Ws.cut (fun r' m' => ∃ l2, WayOk w l2 ∧ r' = [some (.ref p), some (.int (w : Nat)), some (.int kd), none, some (.ref q), some (.int (a : Nat))] ∧ PotM p ((q, .lst (l2.map D.int)) :: m0) m') ?_ ?_
  · refine ws_if ?_
    walk_at "gn_1"
    · have cp : CPow 10 30 := by
        unfold CPow
        decide
      have e30 : (10 : Int) ^ (30 : Int).toNat = 1000000000000000000000000000000 := by decide
      refine w2_powF ⟨cp, ?_⟩
      rw [e30]
      walk_at "gn_1"
      all_goals try first | decide | exact bd_lit (by decide)
      rename_i v m7 v0 v1 hm7
      obtain ⟨cs', i', rr', rfl, ec'⟩ := hm7
      refine ⟨q, _, _, a, _, rfl, rfl, .tail .head, ixN_natL (by rw [List.length_map, w1'.len]; omega), .tail .head, ?_⟩
      rw [← List.map_set]
      exact ⟨_, set0 _ _ w1' (by unfold Bd; omega), rfl, ⟨cs', i', rr', rfl, ec'⟩⟩
    · exact ⟨l1, w1', rfl, hm5⟩
  · rintro r' m' ⟨l2, h2, rfl, hm8⟩
    refine PotM.fz (s := 4) rfl hm8 fun m9 hm9 => ?_
    walk_at "gn_1"
    exact kk l2 _ h2 hm9
end
end K22
set_option Elab.async false
set_option linter.all false
set_option maxRecDepth 100000
set_option maxHeartbeats 4000000
namespace K22
open PySem PySem.Spec L2 DL
open PyProof.Rows hiding St
open SX (S)
/-! one step, by the goal's head -/

/-! Ratio and Span by numbers: their promises used -/

/-! comprehensions, sums, lists of others -/

/-! books -/
local macro_rules | `(tactic| walk_at "fld_1") => `(tactic| (with_reducible refine we_fldF ?_))
local macro_rules | `(tactic| walk_at "useWe_1") => `(tactic| first
  | ((with_reducible apply we_lcs); case gk => first | exact gk_name rfl | exact gk_tup (gks_cons (gk_name rfl) (gks_cons (gk_name rfl) gks_nil)))
  | (with_reducible refine we_slPre ?_) | (with_reducible refine we_slSuf ?_) | (with_reducible refine we_app ?_) | (with_reducible refine we_mt ?_) | (with_reducible refine we_grd ?_) | (with_reducible refine we_ratQ ?_) | (with_reducible refine we_ratQ1 ?_) | fail)
local macro_rules | `(tactic| walk_at "sWe_1") => `(tactic| first
  | ((with_reducible refine we_var (d := ?d) ?hv ?hk); case hv => rfl)
  | (with_reducible first
    | refine we_cint ?_ | refine we_2 ?_ | refine we_cl0 ?_ | refine we_tup ?_ | refine we_1 ?_ | refine we_c2 ?_ | refine we_cbl ?_ | refine we_cnon ?_ | refine we_cty ?_ | refine we_cref ?_
    | refine we_op ?_ | refine we_andV ?_ | refine we_orV ?_ | refine we_notV ?_ | refine we_3 ?_ | refine we_ifx ?_ | refine we_cstr ?_ | refine we_clH ?_)
  | walk_at "fld_1"
  | walk_at "useWe_1")
local macro_rules | `(tactic| walk_at "useW2_1") => `(tactic| first
  | (with_reducible refine w2_eqRN ?_) | (with_reducible refine w2_eqLN ?_) | (with_reducible refine w2_eqLli ?_) | (with_reducible refine w2_eqLi ?_)
  | (with_reducible refine w2_ixT ⟨ix_map0 ?_, ?_⟩) | (with_reducible refine w2_ixL ⟨ix_map0 ?_, ?_⟩) | (with_reducible refine w2_ixT ⟨ix_map ?_, ?_⟩) | (with_reducible refine w2_ixL ⟨ix_map ?_, ?_⟩)
  | (with_reducible refine w2_addO (by assumption) (by decide) .fixed .fixed ?_) | (with_reducible refine w2_subO (by assumption) (by decide) .fixed .fixed ?_) | (with_reducible refine w2_mulO (by assumption) (by decide) .fixed .fixed ?_) | (with_reducible refine w1_negO (by assumption) (by decide) .fixed ?_)
  | (with_reducible refine w2_catL .lst .lst ?_ ?_) | fail)
local macro_rules | `(tactic| walk_at "sW2_1") => `(tactic| first
  | (with_reducible first
    | refine w2_add ?_ | refine w2_sub ?_ | refine w2_mul ⟨?_, ?_⟩ | refine w2_fdiv ⟨?_, ?_⟩ | refine w2_mod ⟨?_, ?_⟩ | refine w2_pow ⟨?_, ?_⟩ | refine w2_eqI ?_ | refine w2_neI ?_ | refine w2_lt ?_ | refine w2_le ?_ | refine w2_gt ?_ | refine w2_ge ?_ | refine w2_eqFI ?_ | refine w2_neFI ?_)
  | ((with_reducible refine w2_ixT (d := ?d) ⟨?hv, ?hk⟩); case hv => rfl)
  | ((with_reducible refine w2_ixL (d := ?d) ⟨?hv, ?hk⟩); case hv => rfl)
  | ((with_reducible refine w2_ixM (d := ?d) .head ⟨?hv, ?hk⟩); case hv => rfl)
  | (with_reducible first
    | refine w2_eqIH ?_ | refine w2_neIH ?_ | refine w2_mulH ⟨?_, ?_⟩ | refine w2_addH ?_ | refine w2_subH ?_ | refine w2_isN ?_ | refine w2_notN ?_ | refine w2_isB ?_ | refine w2_notB ?_)
  | walk_at "useW2_1")
local macro_rules | `(tactic| walk_at "sWa_1") => `(tactic| with_reducible first | refine wa_nil ?_ | refine wa_cons ?_)
local macro_rules | `(tactic| walk_at "useWs_1") => `(tactic| first | (with_reducible refine ws_rs0 ?_) | (with_reducible refine ws_rs ?_) | fail)
local macro_rules | `(tactic| walk_at "sWs_1") => `(tactic| first
  | (with_reducible first | refine ws_seq ?_ | refine ws_ret ?_ | refine ws_asg ?_ | refine ws_next ?_ | refine ws_drop ?_ | refine ws_par ?_ | refine ws_par3 ?_ | refine ws_fldN ?_ | refine ws_brk ?_ | refine ws_cont ?_)
  | walk_at "useWs_1")
local macro_rules | `(tactic| walk_at "sWt_1") => `(tactic| with_reducible first | refine wt_test ?_ | refine wt_tr ?_ | refine wt_and ?_ | refine wt_or ?_ | refine wt_not ?_)
local macro_rules | `(tactic| walk_at "useWc_1") => `(tactic| first
  | (with_reducible refine wc_len (SeqM.len (by assumption)) ?_) | (with_reducible refine wc_sumG ?_) | (with_reducible refine wc_sumI ?_) | (with_reducible refine wc_tupleL .tup ?_) | (with_reducible refine wc_tupleL .lst ?_) | (with_reducible refine wc_listF .tup ?_) | (with_reducible refine wc_listF .lst ?_) | fail)
local macro_rules | `(tactic| walk_at "sWc_1") => `(tactic| first
  | (with_reducible first | refine wc_int ?_ | refine wc_abs ?_ | refine wc_min ?_ | refine wc_gcd ?_ | refine wc_isiT .int kit_ii ?_ | refine wc_isiT .int kit_ib ?_ | refine wc_len .lst ?_ | refine wc_len .tup ?_ | refine wc_strI ?_ ?_)
  | walk_at "useWc_1")
local macro_rules | `(tactic| walk_at "sWi_1") => `(tactic| with_reducible first | refine wi_seq ?_ | refine wi_rng1S ?_ | refine wi_rng2 ?_ | refine wi_zipM ?_)
local macro_rules | `(tactic| walk_at "sWg_1") => `(tactic| with_reducible first | refine wg_name ?_ | refine wg_subM ?_ | refine wg_tup rfl ?_)
local macro_rules | `(tactic| walk_at "sW1_1") => `(tactic| first | (with_reducible refine w1_neg ?_) | walk_at "useW2_1")
local macro_rules | `(tactic| walk_at "sWgs_1") => `(tactic| with_reducible first | refine wgs_cons ?_ | refine wgs_nil ?_)
local macro_rules | `(tactic| walk_at "sS_1") => `(tactic| first | (with_reducible refine SlA.mk ?_ ?_) | (with_reducible refine RngA.mk ?_ ?_) | (with_reducible refine LcS.mk ?_ (fun a ha q => ?_) ?_) | (with_reducible exact LcL.mk rfl rfl) | fail)
local macro_rules | `(tactic| walk_at "use_1") => `(tactic| fail)
local macro_rules | `(tactic| walk_at "sX_1") => `(tactic| first
  | (with_reducible refine ⟨_, rfl, ?_⟩)
  | (with_reducible refine fld_top (by assumption) ?_) | (with_reducible refine fld_bottom (by assumption) ?_)
  | (with_reducible refine ⟨_, .bl, ?_⟩)
  | ((with_reducible refine ⟨?h, ?_⟩); case h => rfl)
  | (with_reducible refine ⟨_, _, rfl, ?_⟩)
  | (with_reducible refine ⟨_, _, _, rfl, ?_⟩)
  | walk_at "use_1"
  | (with_reducible refine setN_top (by assumption) ?_) | (with_reducible refine setN_bottom (by assumption) ?_)
  | ((with_reducible refine ⟨_, _, _, ?j, _, rfl, rfl, .head, ?h, .head, ?_⟩); case h => rfl)
  | fail)
local macro_rules | `(tactic| walk_at "st_1") => `(tactic| first
  | ((with_reducible show We _ _ _ _ _ _); walk_at "sWe_1")
  | ((with_reducible show W2 _ _ _ _ _ _ _ _); walk_at "sW2_1")
  | ((with_reducible show Wa _ _ _ _ _ _); walk_at "sWa_1")
  | ((with_reducible show Ws _ _ _ _ _ _); walk_at "sWs_1")
  | ((with_reducible show Wt _ _ _ _ _ _); walk_at "sWt_1")
  | ((with_reducible show Wc _ _ _ _ _ _ _); walk_at "sWc_1")
  | ((with_reducible show Wi _ _ _ _ _ _); walk_at "sWi_1")
  | ((with_reducible show Wg _ _ _ _ _ _ _); walk_at "sWg_1")
  | ((with_reducible show W1 _ _ _ _ _ _ _); walk_at "sW1_1")
  | ((with_reducible show Wgs _ _ _ _ _ _ _); walk_at "sWgs_1")
  | walk_at "sS_1" | walk_at "sX_1" | fail)
local macro_rules | `(tactic| walk_at "wif_1") => `(tactic| (with_reducible refine ws_if ?_))
local macro_rules | `(tactic| walk_at "br_1") => `(tactic| ((with_reducible refine ⟨fun hb => ?_, fun hb => ?_⟩) <;> (try simp only [decide_eq_true_eq, decide_eq_false_iff_not, Bool.not_eq_true', Bool.not_eq_false', Bool.and_eq_true, Bool.or_eq_true, reduceCtorEq, List.length_map, Bool.not_true, Bool.not_false, DL.isNon, not_true_eq_false, not_false_eq_true, Classical.not_not, List.all_cons, List.all_nil, id_eq, Bool.and_self, Bool.true_and, decide_true, decide_false] at hb)))
local macro_rules | `(tactic| walk_at "go_1") => `(tactic| repeat' (first | walk_at "st_1" | walk_at "wif_1" | walk_at "br_1" | fail))

section
variable {G : Gx} {C_Ratio C_Load C_Book C_OutOfBounds : Addr}
def S_gcd : SpecD := fun ds m K _ => ∃ a b, ds = [.int a, .int b] ∧ Bd 9999 b ∧ K (.int (Nat.gcd a.natAbs b.natAbs : Nat)) m
theorem use_gcd {a b : Int} {m : Mu} {K : KT} {E : Ex → Mu → Prop} (h2 : Bd 9999 b) (h : K (.int (Nat.gcd a.natAbs b.natAbs : Nat)) m) : S_gcd [.int a, .int b] m K E := ⟨a, b, rfl, h2, h⟩
theorem ok_gcd (T : Txt G C_Ratio C_Load C_Book C_OutOfBounds) {f : Addr} {fd : FuncData} (F : L2.Fun G.K "_law_gcd" "_law_gcd" s__law_gcd f fd) (b : L2.Binds G.K fd ["a", "b"] []) : Fnx G 1 f 2 S_gcd [] := by
  refine fnx_of F sc__law_gcd rfl b .nil rfl (fun cdv A outer s H FF hr tk => ⟨_, (pss_cons (ps_set (i := 0) sc__law_gcd.nd rfl (Or.inl rfl) (pe_cb cs_abs rfl T.n_abs bt_abs (pa_cons (pe_var (i := 0) rfl (Or.inl rfl) nd_a.1 nd_a.2) pa_nil))) (pss_cons (ps_set (i := 1) sc__law_gcd.nd rfl (Or.inl rfl) (pe_cb cs_abs rfl T.n_abs bt_abs (pa_cons (pe_var (i := 1) rfl (Or.inl rfl) nd_b.1 nd_b.2) pa_nil))) (pss_cons (ps_for (passes_of rfl) rfl (pi_range1 rfl T.n_range (pa_cons pe_int pa_nil)) (pg_name (i := 2) sc__law_gcd.nd rfl (Or.inl rfl)) (pss_cons (ps_if (pt_cm (os_eqF hr tk) (pe_var (i := 1) rfl (Or.inl rfl) nd_b.1 nd_b.2) pe_int (nomark _)) (pss_one (ps_ret (pe_var (i := 0) rfl (Or.inl rfl) nd_a.1 nd_a.2))) pss_nil) (pss_cons (ps_set (i := 3) sc__law_gcd.nd rfl (Or.inl rfl) (pe_bin os_mod (pe_ct cs_int rfl T.n_int bt_int (pa_cons (pe_var (i := 0) rfl (Or.inl rfl) nd_a.1 nd_a.2) pa_nil)) (pe_var (i := 1) rfl (Or.inl rfl) nd_b.1 nd_b.2))) (pss_cons (ps_set (i := 0) sc__law_gcd.nd rfl (Or.inl rfl) (pe_var (i := 1) rfl (Or.inl rfl) nd_b.1 nd_b.2)) (pss_one (ps_set (i := 1) sc__law_gcd.nd rfl (Or.inl rfl) (pe_var (i := 3) rfl (Or.inl rfl) nd_rest.1 nd_rest.2))))))) (pss_one (ps_ret pe_int))))), ?_⟩)
  rintro ds m K E - ⟨a, b, rfl, hb, k⟩
  show Ws _ _ _ [some (.int a), some (.int b), none, none] _ _
  dsimp only [cx_G, cx_K]
  walk_at "go_1"
  refine ws_range1 ?_
  walk_at "go_1"
  refine ⟨_, fun i r' m' => m' = m ∧ ∃ (u v : Nat) (o1 o2 : Option D), r' = [some (.int u), some (.int v), o1, o2] ∧ Nat.gcd u v = Nat.gcd a.natAbs b.natAbs ∧ EuF b.natAbs i u v, rfl, by decide, ?_, ?_, ?_⟩
  · exact ⟨rfl, a.natAbs, b.natAbs, _, _, rfl, rfl, .inl ⟨rfl, rfl⟩⟩
  · rintro i r' m' hi ⟨rfl, u, v, o1, o2, rfl, hg, he⟩
    have fin : (v : Int) = 0 → K (.int (u : Int)) m' := fun h => by
      have h' : v = 0 := Int.natCast_eq_zero.mp h
      rw [h', Nat.gcd_zero_right] at hg
      rw [hg]
      exact k
    walk_at "go_1"
    · exact fin ‹_›
    · exact ‹¬ _›
    · have hy : 0 < v := by omega
      have e : ((u : Int).fmod (v : Int)) = ((u % v : Nat) : Int) := by
        rw [Int.fmod_eq_emod_of_nonneg _ (by omega)]
        exact (Int.natCast_emod u v).symm
      rw [e]
      refine ⟨v, u % v, _, _, rfl, ?_, he.step hy⟩
      rw [← hg, Nat.gcd_comm u v, Nat.gcd_rec v u, Nat.gcd_comm]
  · rintro r' m' ⟨rfl, u, v, o1, o2, rfl, hg, he⟩
    have e : (20000 : Int).toNat = 2 * 9999 + 2 := by decide
    rw [e] at he
    exact (he.earlyL hb).elim
def S_alike (CR : Addr) : SpecD := fun ds m K _ => ∃ x t b, ds = [rq CR x, .int t, .int b] ∧ b ≠ 0 ∧ dv t b = x ∧ Qb 9900 x ∧ Bd 9900 t ∧ Bd 9900 b ∧ K (.bl true) m
theorem use_alike {CR : Addr} {x : Rat} {t b : Int} {m : Mu} {K : KT} {E : Ex → Mu → Prop} (h0 : b ≠ 0) (h1 : dv t b = x) (h2 : Qb 9900 x) (h3 : Bd 9900 t) (h4 : Bd 9900 b) (h : K (.bl true) m) : S_alike CR [rq CR x, .int t, .int b] m K E := ⟨x, t, b, rfl, h0, h1, h2, h3, h4, h⟩
local macro_rules | `(tactic| walk_at "fld_2") => `(tactic| (with_reducible refine we_fldF ?_))
local macro_rules | `(tactic| walk_at "useWe_2") => `(tactic| first
  | ((with_reducible apply we_lcs); case gk => first | exact gk_name rfl | exact gk_tup (gks_cons (gk_name rfl) (gks_cons (gk_name rfl) gks_nil)))
  | (with_reducible refine we_slPre ?_) | (with_reducible refine we_slSuf ?_) | (with_reducible refine we_app ?_) | (with_reducible refine we_mt ?_) | (with_reducible refine we_grd ?_) | (with_reducible refine we_ratQ ?_) | (with_reducible refine we_ratQ1 ?_) | fail)
local macro_rules | `(tactic| walk_at "sWe_2") => `(tactic| first
  | ((with_reducible refine we_var (d := ?d) ?hv ?hk); case hv => rfl)
  | (with_reducible first
    | refine we_cint ?_ | refine we_2 ?_ | refine we_cl0 ?_ | refine we_tup ?_ | refine we_1 ?_ | refine we_c2 ?_ | refine we_cbl ?_ | refine we_cnon ?_ | refine we_cty ?_ | refine we_cref ?_
    | refine we_op ?_ | refine we_andV ?_ | refine we_orV ?_ | refine we_notV ?_ | refine we_3 ?_ | refine we_ifx ?_ | refine we_cstr ?_ | refine we_clH ?_)
  | walk_at "fld_2"
  | walk_at "useWe_2")
local macro_rules | `(tactic| walk_at "useW2_2") => `(tactic| first
  | (with_reducible refine w2_eqRN ?_) | (with_reducible refine w2_eqLN ?_) | (with_reducible refine w2_eqLli ?_) | (with_reducible refine w2_eqLi ?_)
  | (with_reducible refine w2_ixT ⟨ix_map0 ?_, ?_⟩) | (with_reducible refine w2_ixL ⟨ix_map0 ?_, ?_⟩) | (with_reducible refine w2_ixT ⟨ix_map ?_, ?_⟩) | (with_reducible refine w2_ixL ⟨ix_map ?_, ?_⟩)
  | (with_reducible refine w2_addO (by assumption) (by decide) .fixed .fixed ?_) | (with_reducible refine w2_subO (by assumption) (by decide) .fixed .fixed ?_) | (with_reducible refine w2_mulO (by assumption) (by decide) .fixed .fixed ?_) | (with_reducible refine w1_negO (by assumption) (by decide) .fixed ?_)
  | (with_reducible refine w2_catL .lst .lst ?_ ?_) | fail)
local macro_rules | `(tactic| walk_at "sW2_2") => `(tactic| first
  | (with_reducible first
    | refine w2_add ?_ | refine w2_sub ?_ | refine w2_mul ⟨?_, ?_⟩ | refine w2_fdiv ⟨?_, ?_⟩ | refine w2_mod ⟨?_, ?_⟩ | refine w2_pow ⟨?_, ?_⟩ | refine w2_eqI ?_ | refine w2_neI ?_ | refine w2_lt ?_ | refine w2_le ?_ | refine w2_gt ?_ | refine w2_ge ?_ | refine w2_eqFI ?_ | refine w2_neFI ?_)
  | ((with_reducible refine w2_ixT (d := ?d) ⟨?hv, ?hk⟩); case hv => rfl)
  | ((with_reducible refine w2_ixL (d := ?d) ⟨?hv, ?hk⟩); case hv => rfl)
  | ((with_reducible refine w2_ixM (d := ?d) .head ⟨?hv, ?hk⟩); case hv => rfl)
  | (with_reducible first
    | refine w2_eqIH ?_ | refine w2_neIH ?_ | refine w2_mulH ⟨?_, ?_⟩ | refine w2_addH ?_ | refine w2_subH ?_ | refine w2_isN ?_ | refine w2_notN ?_ | refine w2_isB ?_ | refine w2_notB ?_)
  | walk_at "useW2_2")
local macro_rules | `(tactic| walk_at "sWa_2") => `(tactic| with_reducible first | refine wa_nil ?_ | refine wa_cons ?_)
local macro_rules | `(tactic| walk_at "useWs_2") => `(tactic| first | (with_reducible refine ws_rs0 ?_) | (with_reducible refine ws_rs ?_) | fail)
local macro_rules | `(tactic| walk_at "sWs_2") => `(tactic| first
  | (with_reducible first | refine ws_seq ?_ | refine ws_ret ?_ | refine ws_asg ?_ | refine ws_next ?_ | refine ws_drop ?_ | refine ws_par ?_ | refine ws_par3 ?_ | refine ws_fldN ?_ | refine ws_brk ?_ | refine ws_cont ?_)
  | walk_at "useWs_2")
local macro_rules | `(tactic| walk_at "sWt_2") => `(tactic| with_reducible first | refine wt_test ?_ | refine wt_tr ?_ | refine wt_and ?_ | refine wt_or ?_ | refine wt_not ?_)
local macro_rules | `(tactic| walk_at "useWc_2") => `(tactic| with_reducible refine wc_isiC (.ins (by assumption)) (by assumption) ?_)
local macro_rules | `(tactic| walk_at "sWc_2") => `(tactic| first
  | (with_reducible first | refine wc_int ?_ | refine wc_abs ?_ | refine wc_min ?_ | refine wc_gcd ?_ | refine wc_isiT .int kit_ii ?_ | refine wc_isiT .int kit_ib ?_ | refine wc_len .lst ?_ | refine wc_len .tup ?_ | refine wc_strI ?_ ?_)
  | walk_at "useWc_2")
local macro_rules | `(tactic| walk_at "sWi_2") => `(tactic| with_reducible first | refine wi_seq ?_ | refine wi_rng1S ?_ | refine wi_rng2 ?_ | refine wi_zipM ?_)
local macro_rules | `(tactic| walk_at "sWg_2") => `(tactic| with_reducible first | refine wg_name ?_ | refine wg_subM ?_ | refine wg_tup rfl ?_)
local macro_rules | `(tactic| walk_at "sW1_2") => `(tactic| first | (with_reducible refine w1_neg ?_) | walk_at "useW2_2")
local macro_rules | `(tactic| walk_at "sWgs_2") => `(tactic| with_reducible first | refine wgs_cons ?_ | refine wgs_nil ?_)
local macro_rules | `(tactic| walk_at "sS_2") => `(tactic| first | (with_reducible refine SlA.mk ?_ ?_) | (with_reducible refine RngA.mk ?_ ?_) | (with_reducible refine LcS.mk ?_ (fun a ha q => ?_) ?_) | (with_reducible exact LcL.mk rfl rfl) | fail)
local macro_rules | `(tactic| walk_at "use_2") => `(tactic| first | (with_reducible refine use_whole ?_) | (with_reducible refine use_gcd ?_ ?_) | fail)
local macro_rules | `(tactic| walk_at "sX_2") => `(tactic| first
  | (with_reducible refine ⟨_, rfl, ?_⟩)
  | (with_reducible refine fld_top (by assumption) ?_) | (with_reducible refine fld_bottom (by assumption) ?_)
  | (with_reducible refine ⟨_, .bl, ?_⟩)
  | ((with_reducible refine ⟨?h, ?_⟩); case h => rfl)
  | (with_reducible refine ⟨_, _, rfl, ?_⟩)
  | (with_reducible refine ⟨_, _, _, rfl, ?_⟩)
  | walk_at "use_2"
  | (with_reducible refine setN_top (by assumption) ?_) | (with_reducible refine setN_bottom (by assumption) ?_)
  | ((with_reducible refine ⟨_, _, _, ?j, _, rfl, rfl, .head, ?h, .head, ?_⟩); case h => rfl)
  | fail)
local macro_rules | `(tactic| walk_at "st_2") => `(tactic| first
  | ((with_reducible show We _ _ _ _ _ _); walk_at "sWe_2")
  | ((with_reducible show W2 _ _ _ _ _ _ _ _); walk_at "sW2_2")
  | ((with_reducible show Wa _ _ _ _ _ _); walk_at "sWa_2")
  | ((with_reducible show Ws _ _ _ _ _ _); walk_at "sWs_2")
  | ((with_reducible show Wt _ _ _ _ _ _); walk_at "sWt_2")
  | ((with_reducible show Wc _ _ _ _ _ _ _); walk_at "sWc_2")
  | ((with_reducible show Wi _ _ _ _ _ _); walk_at "sWi_2")
  | ((with_reducible show Wg _ _ _ _ _ _ _); walk_at "sWg_2")
  | ((with_reducible show W1 _ _ _ _ _ _ _); walk_at "sW1_2")
  | ((with_reducible show Wgs _ _ _ _ _ _ _); walk_at "sWgs_2")
  | walk_at "sS_2" | walk_at "sX_2" | fail)
local macro_rules | `(tactic| walk_at "wif_2") => `(tactic| (with_reducible refine ws_if ?_))
local macro_rules | `(tactic| walk_at "br_2") => `(tactic| ((with_reducible refine ⟨fun hb => ?_, fun hb => ?_⟩) <;> (try simp only [decide_eq_true_eq, decide_eq_false_iff_not, Bool.not_eq_true', Bool.not_eq_false', Bool.and_eq_true, Bool.or_eq_true, reduceCtorEq, List.length_map, Bool.not_true, Bool.not_false, DL.isNon, not_true_eq_false, not_false_eq_true, Classical.not_not, List.all_cons, List.all_nil, id_eq, Bool.and_self, Bool.true_and, decide_true, decide_false] at hb)))
local macro_rules | `(tactic| walk_at "go_2") => `(tactic| repeat' (first | walk_at "st_2" | walk_at "wif_2" | walk_at "br_2" | fail))
theorem ok_alike (T : Txt G C_Ratio C_Load C_Book C_OutOfBounds) (c__law_whole : Cal G 1 "_law_whole" 1 S_whole []) (c__law_gcd : Cal G 1 "_law_gcd" 2 S_gcd []) {f : Addr} {fd : FuncData} (F : L2.Fun G.K "_law_alike" "_law_alike" s__law_alike f fd) (b : L2.Binds G.K fd ["told", "top", "bottom"] []) : Fnx G 2 f 3 (S_alike C_Ratio) [] := by
  refine fnx_of F sc__law_alike rfl b .nil rfl (fun cdv A outer s H FF hr tk => ⟨_, (pss_cons (ps_if (pt_not (pt_tr (pe_cb cs_isi rfl T.n_isinstance bt_isinstance (pa_cons (pe_var (i := 0) rfl (Or.inl rfl) nd_told.1 nd_told.2) (pa_cons (pe_glob (v := .ref C_Ratio) rfl T.mg_Ratio rfl) pa_nil))))) (pss_one (ps_ret pe_bl)) pss_nil) (pss_cons (ps_set (i := 3) sc__law_alike.nd rfl (Or.inl rfl) (pe_fld (pe_var (i := 0) rfl (Or.inl rfl) nd_told.1 nd_told.2) rfl)) (pss_cons (ps_set (i := 4) sc__law_alike.nd rfl (Or.inl rfl) (pe_fld (pe_var (i := 0) rfl (Or.inl rfl) nd_told.1 nd_told.2) rfl)) (pss_cons (ps_if (PW.pt (pw_or (pt_not (pt_tr (pe_cl c__law_whole hr (by decide) tk rfl (pa_cons (pe_var (i := 3) rfl (Or.inl rfl) nd_a.1 nd_a.2) pa_nil)))) (pw_or (pt_not (pt_tr (pe_cl c__law_whole hr (by decide) tk rfl (pa_cons (pe_var (i := 4) rfl (Or.inl rfl) nd_b.1 nd_b.2) pa_nil)))) (pw_or1 (pt_cm os_lt (pe_var (i := 4) rfl (Or.inl rfl) nd_b.1 nd_b.2) pe_int (nomark _)))))) (pss_one (ps_ret pe_bl)) pss_nil) (pss_one (ps_ret (pe_and (pe_cm (os_eqF hr tk) (pe_bin (os_mul hr tk) (pe_var (i := 3) rfl (Or.inl rfl) nd_a.1 nd_a.2) (pe_var (i := 2) rfl (Or.inl rfl) nd_bottom.1 nd_bottom.2)) (pe_bin (os_mul hr tk) (pe_var (i := 1) rfl (Or.inl rfl) nd_top.1 nd_top.2) (pe_var (i := 4) rfl (Or.inl rfl) nd_b.1 nd_b.2)) (nomark _)) (pe_one (pe_cm (os_eqF hr tk) (pe_cl c__law_gcd hr (by decide) tk rfl (pa_cons (pe_var (i := 3) rfl (Or.inl rfl) nd_a.1 nd_a.2) (pa_cons (pe_var (i := 4) rfl (Or.inl rfl) nd_b.1 nd_b.2) pa_nil))) pe_int (nomark _)))))))))), ?_⟩)
  rintro ds m K E - ⟨x, t, b, rfl, b0, hx, qx, bt, bb, k⟩
  show Ws _ _ _ [some (rq C_Ratio x), some (.int t), some (.int b), none, none] _ _
  try dsimp only [cx_G, cx_K]
  have R := T.R_Ratio
  have RI := R.ins
  have iR := T.is_Ratio_Ratio
  have eq1 : x.num * b = t * (x.den : Int) := by
    have h : dv t b = dv x.num (x.den : Int) := by rw [hx, dv_self]
    exact ((dv_eq b0 (den_ne x)).mp h).symm
  have g1 : (Nat.gcd x.num.natAbs ((x.den : Nat) : Int).natAbs : Nat) = 1 := by
    rw [Int.natAbs_natCast]
    exact x.reduced
  have dp := x.den_pos
  walk_at "go_2"
  all_goals try first
    | omega
    | exact qx.b.mono (by decide)
    | exact qx.t.mulX bb (by decide)
    | exact bt.mulX qx.b (by decide)
    | exact absurd eq1 ‹_›
  rw [g1, show decide (((1 : Nat) : Int) = 1) = true from rfl]
  exact k
theorem range_dot {l y : List Int} (h : l.length = y.length) : (List.range y.length).map (fun j => l[j]! * y[j]!) = (l.zip y).map fun p => p.1 * p.2 := by
  refine List.ext_getElem (by rw [List.length_map, List.length_range, List.length_map, List.length_zip, h, Nat.min_self]) fun i h1 h2 => ?_
  have hi : i < y.length := by rw [List.length_map, List.length_range] at h1; exact h1
  rw [List.getElem_map, List.getElem_map, List.getElem_range, List.getElem_zip, getElem!_pos l i (by omega), getElem!_pos y i hi]
theorem enQ_snoc {ls : List Ld} {a : Ld} {y : List Int} : enQ (ls ++ [a]) y = enQ ls y + a.wt * ((dot a.nums y * dot a.nums y : Int) : Rat) := by
  rw [enQ_app, enQ_cons]
  have : enQ [] y = 0 := rfl
  rw [this]
  grind
def S_oenergy : SpecD := fun ds m K _ => ∃ w R y, ds = [.lst (R.map rwD), li y] ∧ 1 ≤ w ∧ w ≤ 12 ∧ RwsOk w R ∧ y.length = w ∧ (∀ x ∈ y, Bd 110 x) ∧ ∀ t b, b ≠ 0 → dv t b = enQ (R.map rwL) y → Bd 1000 t → Bd 1000 b → K (.tup [.int t, .int b]) m
theorem use_oenergy {w : Nat} {R : List Rw} {y : List Int} {m : Mu} {K : KT} {E : Ex → Mu → Prop} (w1 : 1 ≤ w) (w2 : w ≤ 12) (h : RwsOk w R) (hy : y.length = w) (yb : ∀ x ∈ y, Bd 110 x) (k : ∀ t b, b ≠ 0 → dv t b = enQ (R.map rwL) y → Bd 1000 t → Bd 1000 b → K (.tup [.int t, .int b]) m) : S_oenergy [.lst (R.map rwD), li y] m K E := ⟨w, R, y, rfl, w1, w2, h, hy, yb, k⟩
local macro_rules | `(tactic| walk_at "fld_3") => `(tactic| (with_reducible refine we_fldF ?_))
local macro_rules | `(tactic| walk_at "useWe_3") => `(tactic| first
  | ((with_reducible apply we_lcs); case gk => first | exact gk_name rfl | exact gk_tup (gks_cons (gk_name rfl) (gks_cons (gk_name rfl) gks_nil)))
  | (with_reducible refine we_slPre ?_) | (with_reducible refine we_slSuf ?_) | (with_reducible refine we_app ?_) | (with_reducible refine we_mt ?_) | (with_reducible refine we_grd ?_) | (with_reducible refine we_ratQ ?_) | (with_reducible refine we_ratQ1 ?_) | fail)
local macro_rules | `(tactic| walk_at "sWe_3") => `(tactic| first
  | ((with_reducible refine we_var (d := ?d) ?hv ?hk); case hv => rfl)
  | (with_reducible first
    | refine we_cint ?_ | refine we_2 ?_ | refine we_cl0 ?_ | refine we_tup ?_ | refine we_1 ?_ | refine we_c2 ?_ | refine we_cbl ?_ | refine we_cnon ?_ | refine we_cty ?_ | refine we_cref ?_
    | refine we_op ?_ | refine we_andV ?_ | refine we_orV ?_ | refine we_notV ?_ | refine we_3 ?_ | refine we_ifx ?_ | refine we_cstr ?_ | refine we_clH ?_)
  | walk_at "fld_3"
  | walk_at "useWe_3")
local macro_rules | `(tactic| walk_at "useW2_3") => `(tactic| first
  | (with_reducible refine w2_eqRN ?_) | (with_reducible refine w2_eqLN ?_) | (with_reducible refine w2_eqLli ?_) | (with_reducible refine w2_eqLi ?_)
  | (with_reducible refine w2_ixT ⟨ix_map0 ?_, ?_⟩) | (with_reducible refine w2_ixL ⟨ix_map0 ?_, ?_⟩) | (with_reducible refine w2_ixT ⟨ix_map ?_, ?_⟩) | (with_reducible refine w2_ixL ⟨ix_map ?_, ?_⟩)
  | (with_reducible refine w2_addO (by assumption) (by decide) .fixed .fixed ?_) | (with_reducible refine w2_subO (by assumption) (by decide) .fixed .fixed ?_) | (with_reducible refine w2_mulO (by assumption) (by decide) .fixed .fixed ?_) | (with_reducible refine w1_negO (by assumption) (by decide) .fixed ?_)
  | (with_reducible refine w2_catL .lst .lst ?_ ?_) | fail)
local macro_rules | `(tactic| walk_at "sW2_3") => `(tactic| first
  | (with_reducible first
    | refine w2_add ?_ | refine w2_sub ?_ | refine w2_mul ⟨?_, ?_⟩ | refine w2_fdiv ⟨?_, ?_⟩ | refine w2_mod ⟨?_, ?_⟩ | refine w2_pow ⟨?_, ?_⟩ | refine w2_eqI ?_ | refine w2_neI ?_ | refine w2_lt ?_ | refine w2_le ?_ | refine w2_gt ?_ | refine w2_ge ?_ | refine w2_eqFI ?_ | refine w2_neFI ?_)
  | ((with_reducible refine w2_ixT (d := ?d) ⟨?hv, ?hk⟩); case hv => rfl)
  | ((with_reducible refine w2_ixL (d := ?d) ⟨?hv, ?hk⟩); case hv => rfl)
  | ((with_reducible refine w2_ixM (d := ?d) .head ⟨?hv, ?hk⟩); case hv => rfl)
  | (with_reducible first
    | refine w2_eqIH ?_ | refine w2_neIH ?_ | refine w2_mulH ⟨?_, ?_⟩ | refine w2_addH ?_ | refine w2_subH ?_ | refine w2_isN ?_ | refine w2_notN ?_ | refine w2_isB ?_ | refine w2_notB ?_)
  | walk_at "useW2_3")
local macro_rules | `(tactic| walk_at "sWa_3") => `(tactic| with_reducible first | refine wa_nil ?_ | refine wa_cons ?_)
local macro_rules | `(tactic| walk_at "useWs_3") => `(tactic| first | (with_reducible refine ws_rs0 ?_) | (with_reducible refine ws_rs ?_) | fail)
local macro_rules | `(tactic| walk_at "sWs_3") => `(tactic| first
  | (with_reducible first | refine ws_seq ?_ | refine ws_ret ?_ | refine ws_asg ?_ | refine ws_next ?_ | refine ws_drop ?_ | refine ws_par ?_ | refine ws_par3 ?_ | refine ws_fldN ?_ | refine ws_brk ?_ | refine ws_cont ?_)
  | walk_at "useWs_3")
local macro_rules | `(tactic| walk_at "sWt_3") => `(tactic| with_reducible first | refine wt_test ?_ | refine wt_tr ?_ | refine wt_and ?_ | refine wt_or ?_ | refine wt_not ?_)
local macro_rules | `(tactic| walk_at "useWc_3") => `(tactic| first | (with_reducible refine wc_len (SeqM.len (by assumption)) ?_) | (with_reducible refine wc_sumI ?_) | (with_reducible refine wc_len .lst ?_) | fail)
local macro_rules | `(tactic| walk_at "sWc_3") => `(tactic| first
  | (with_reducible first | refine wc_int ?_ | refine wc_abs ?_ | refine wc_min ?_ | refine wc_gcd ?_ | refine wc_isiT .int kit_ii ?_ | refine wc_isiT .int kit_ib ?_ | refine wc_len .lst ?_ | refine wc_len .tup ?_ | refine wc_strI ?_ ?_)
  | walk_at "useWc_3")
local macro_rules | `(tactic| walk_at "sWi_3") => `(tactic| with_reducible first | refine wi_seq ?_ | refine wi_rng1S ?_ | refine wi_rng2 ?_ | refine wi_zipM ?_)
local macro_rules | `(tactic| walk_at "sWg_3") => `(tactic| with_reducible first | refine wg_name ?_ | refine wg_subM ?_ | refine wg_tup rfl ?_)
local macro_rules | `(tactic| walk_at "sW1_3") => `(tactic| first | (with_reducible refine w1_neg ?_) | walk_at "useW2_3")
local macro_rules | `(tactic| walk_at "sWgs_3") => `(tactic| with_reducible first | refine wgs_cons ?_ | refine wgs_nil ?_)
local macro_rules | `(tactic| walk_at "sS_3") => `(tactic| first | (with_reducible refine SlA.mk ?_ ?_) | (with_reducible refine RngA.mk ?_ ?_) | (with_reducible refine LcS.mk ?_ (fun a ha q => ?_) ?_) | (with_reducible exact LcL.mk rfl rfl) | fail)
local macro_rules | `(tactic| walk_at "sq_3") => `(tactic| first | assumption | exact SeqM.cons (by assumption) | exact SeqM.cons (SeqM.cons (by assumption)))
local macro_rules | `(tactic| walk_at "lst_3") => `(tactic| first
  | (with_reducible refine ⟨_, _, rfl, .head, ?_⟩) | (with_reducible refine ⟨_, _, _, rfl, .head, ?_, .head, ?_⟩) | (with_reducible refine ⟨_, _, .tup, ?_⟩) | (with_reducible refine ⟨_, _, .lst, ?_⟩) | (with_reducible refine ⟨_, _, (by walk_at "sq_3"), ?_⟩)
  | (with_reducible refine ⟨_, _, _, _, _, _, _, _, _, _, rfl, .tup, .tup, ?_⟩) | (with_reducible refine ⟨_, _, _, _, _, _, _, _, _, _, rfl, .tup, .lst, ?_⟩) | (with_reducible refine ⟨_, _, _, _, _, _, _, _, _, _, rfl, .tup, (by walk_at "sq_3"), ?_⟩) | (with_reducible refine ⟨_, _, _, _, _, _, _, _, _, _, rfl, .lst, .tup, ?_⟩) | (with_reducible refine ⟨_, _, _, _, _, _, _, _, _, _, rfl, .lst, .lst, ?_⟩) | (with_reducible refine ⟨_, _, _, _, _, _, _, _, _, _, rfl, .lst, (by walk_at "sq_3"), ?_⟩) | (with_reducible refine ⟨_, _, _, _, _, _, _, _, _, _, rfl, (by walk_at "sq_3"), .tup, ?_⟩) | (with_reducible refine ⟨_, _, _, _, _, _, _, _, _, _, rfl, (by walk_at "sq_3"), .lst, ?_⟩) | (with_reducible refine ⟨_, _, _, _, _, _, _, _, _, _, rfl, (by walk_at "sq_3"), (by walk_at "sq_3"), ?_⟩) | fail)
local macro_rules | `(tactic| walk_at "use_3") => `(tactic| first | walk_at "lst_3" | fail)
local macro_rules | `(tactic| walk_at "sX_3") => `(tactic| first
  | (with_reducible refine ⟨_, rfl, ?_⟩)
  | (with_reducible refine fld_top (by assumption) ?_) | (with_reducible refine fld_bottom (by assumption) ?_)
  | (with_reducible refine ⟨_, .bl, ?_⟩)
  | ((with_reducible refine ⟨?h, ?_⟩); case h => rfl)
  | (with_reducible refine ⟨_, _, rfl, ?_⟩)
  | (with_reducible refine ⟨_, _, _, rfl, ?_⟩)
  | walk_at "use_3"
  | (with_reducible refine setN_top (by assumption) ?_) | (with_reducible refine setN_bottom (by assumption) ?_)
  | ((with_reducible refine ⟨_, _, _, ?j, _, rfl, rfl, .head, ?h, .head, ?_⟩); case h => rfl)
  | fail)
local macro_rules | `(tactic| walk_at "st_3") => `(tactic| first
  | ((with_reducible show We _ _ _ _ _ _); walk_at "sWe_3")
  | ((with_reducible show W2 _ _ _ _ _ _ _ _); walk_at "sW2_3")
  | ((with_reducible show Wa _ _ _ _ _ _); walk_at "sWa_3")
  | ((with_reducible show Ws _ _ _ _ _ _); walk_at "sWs_3")
  | ((with_reducible show Wt _ _ _ _ _ _); walk_at "sWt_3")
  | ((with_reducible show Wc _ _ _ _ _ _ _); walk_at "sWc_3")
  | ((with_reducible show Wi _ _ _ _ _ _); walk_at "sWi_3")
  | ((with_reducible show Wg _ _ _ _ _ _ _); walk_at "sWg_3")
  | ((with_reducible show W1 _ _ _ _ _ _ _); walk_at "sW1_3")
  | ((with_reducible show Wgs _ _ _ _ _ _ _); walk_at "sWgs_3")
  | walk_at "sS_3" | walk_at "sX_3" | fail)
local macro_rules | `(tactic| walk_at "br_3") => `(tactic| ((with_reducible refine ⟨fun hb => ?_, fun hb => ?_⟩) <;> (try simp only [decide_eq_true_eq, decide_eq_false_iff_not, Bool.not_eq_true', Bool.not_eq_false', Bool.and_eq_true, Bool.or_eq_true, reduceCtorEq, List.length_map, Bool.not_true, Bool.not_false, DL.isNon, not_true_eq_false, not_false_eq_true, Classical.not_not, List.all_cons, List.all_nil, id_eq, Bool.and_self, Bool.true_and, decide_true, decide_false] at hb)))
local macro_rules | `(tactic| walk_at "gn_3") => `(tactic| repeat' (first | walk_at "st_3" | walk_at "br_3" | fail))
theorem ok_oenergy (T : Txt G C_Ratio C_Load C_Book C_OutOfBounds) {f : Addr} {fd : FuncData} (F : L2.Fun G.K "_law_own_energy" "_law_own_energy" s__law_own_energy f fd) (b : L2.Binds G.K fd ["rows", "way"] []) : Fnx G 1 f 2 S_oenergy [] := by
  refine fnx_of F sc__law_own_energy rfl b .nil rfl (fun cdv A outer s H FF hr tk => ⟨_, (pss_cons (ps_set (i := 2) sc__law_own_energy.nd rfl (Or.inl rfl) pe_int) (pss_cons (ps_set (i := 3) sc__law_own_energy.nd rfl (Or.inl rfl) pe_int) (pss_cons (ps_for (passes_of rfl) rfl (pi_seq (pe_var (i := 0) rfl (Or.inl rfl) nd_rows.1 nd_rows.2)) (pg_name (i := 4) sc__law_own_energy.nd rfl (Or.inr rfl)) (pss_cons (ps_set (i := 5) sc__law_own_energy.nd rfl (Or.inl rfl) (pe_cb (oc := cSumF G) (cs_sum rfl) rfl T.n_sum bt_sum (pa_cons (pe_lc (own := [("j", 6)]) (g := (gName 6)) (tt := tYes) rfl sc__law_own_energy.nd (pi_range1 rfl T.n_range (pa_cons (pe_cb cs_len rfl T.n_len bt_len (pa_cons (pe_var (i := 1) rfl (Or.inr (Or.inl rfl)) nd_way.1 nd_way.2) pa_nil)) pa_nil)) (blkOk_by (N := N__law_own_energy) (sc := (defScope s__law_own_energy)) (by decide +kernel)) (fun _ _ _ _ _ => (pg_name (i := 6) sc__law_own_energy.nd rfl (Or.inl rfl))) (fun _ _ _ _ _ => pts_nil) (fun _ _ _ _ _ => (pe_bin (o := oMul G _ wNo) (os_mul (by exact hr) takes0N) (pe_ix (r := rIx G.K) ix_seq (pe_ix (r := rIx G.K) ix_seq (pe_var (i := 4) rfl (Or.inr (Or.inl rfl)) nd_row.1 nd_row.2) pe_int (fun _ _ => rfl)) (pe_var (i := 6) rfl (Or.inl rfl) nd_j.1 nd_j.2) (fun _ _ => rfl)) (pe_ix (r := rIx G.K) ix_seq (pe_var (i := 1) rfl (Or.inr (Or.inl rfl)) nd_way.1 nd_way.2) (pe_var (i := 6) rfl (Or.inl rfl) nd_j.1 nd_j.2) (fun _ _ => rfl))))) pa_nil))) (pss_cons (ps_set (i := 2) sc__law_own_energy.nd rfl (Or.inl rfl) (pe_bin (os_add hr tk) (pe_bin (os_mul hr tk) (pe_var (i := 2) rfl (Or.inl rfl) nd_total.1 nd_total.2) (pe_ix ix_seq (pe_ix ix_seq (pe_var (i := 4) rfl (Or.inr (Or.inl rfl)) nd_row.1 nd_row.2) pe_int (fun _ _ => rfl)) pe_int (fun _ _ => rfl))) (pe_bin (os_mul hr tk) (pe_bin (os_mul hr tk) (pe_bin (os_mul hr tk) (pe_var (i := 3) rfl (Or.inl rfl) nd_base.1 nd_base.2) (pe_ix ix_seq (pe_ix ix_seq (pe_var (i := 4) rfl (Or.inr (Or.inl rfl)) nd_row.1 nd_row.2) pe_int (fun _ _ => rfl)) pe_int (fun _ _ => rfl))) (pe_var (i := 5) rfl (Or.inl rfl) nd_along.1 nd_along.2)) (pe_var (i := 5) rfl (Or.inl rfl) nd_along.1 nd_along.2)))) (pss_one (ps_set (i := 3) sc__law_own_energy.nd rfl (Or.inl rfl) (pe_bin (os_mul hr tk) (pe_var (i := 3) rfl (Or.inl rfl) nd_base.1 nd_base.2) (pe_ix ix_seq (pe_ix ix_seq (pe_var (i := 4) rfl (Or.inr (Or.inl rfl)) nd_row.1 nd_row.2) pe_int (fun _ _ => rfl)) pe_int (fun _ _ => rfl)))))))) (pss_one (ps_ret (pe_tup (pa_cons (pe_var (i := 2) rfl (Or.inl rfl) nd_total.1 nd_total.2) (pa_cons (pe_var (i := 3) rfl (Or.inl rfl) nd_base.1 nd_base.2) pa_nil)))))))), ?_⟩)
  rintro ds m K E - ⟨w, R, y, rfl, w1, w2, ok, hy, yb, kk⟩
  show Ws _ _ _ [some (.lst (R.map rwD)), some (li y), none, none, none, none, none] _ _
  try dsimp only [cx_G, cx_K]
  walk_at "gn_3"
  refine ws_seqI (we_var (i := 0) (d := .lst (R.map rwD)) rfl ⟨_, fun i r' m' => m' = m ∧ ∃ t b o4 o5 o6, r' = [some (.lst (R.map rwD)), some (li y), some (.int t), some (.int b), o4, o5, o6] ∧ b ≠ 0 ∧ dv t b = enQ ((R.take i).map rwL) y ∧ Bd (400 + 25 * i) t ∧ Bd (20 * i + 1) b, .lst, ?_, ?_, ?_⟩)
  · refine ⟨rfl, 0, 1, none, none, none, rfl, by decide, ?_, bd_lit (by decide), bd_lit (by decide)⟩
    rw [List.take_zero]
    exact Rat.zero_divInt _
  · rintro i x r' m' hx ⟨rfl, t, b, o4, o5, o6, rfl, b0, e, bt, bb⟩
    rw [List.getElem?_map] at hx
    obtain ⟨a, ha, rfl⟩ := Option.map_eq_some_iff.mp hx
    have ao := ok.ok a (List.mem_of_getElem? ha)
    have hi : i < R.length := (List.getElem?_eq_some_iff.mp ha).1
    have rl := ok.len
    have eY : (((y.map D.int).length : Nat) : Int) = (y.length : Nat) := by rw [List.length_map]
    have aw := ao.wid
    have nb : ∀ z ∈ a.nums, Bd 20 z := fun z hz => by
      have := ao.nb z hz
      unfold Bd
      omega
    walk_at "gn_3"
    all_goals try rw [eY]
    · exact rngB (by omega)
    · rw [List.length_range]
      exact Nat.ble_eq_true_of_le (by omega)
    · have h := List.mem_range.mp ‹_ ∈ List.range _›
      rw [eY] at h
      omega
    · have h := List.mem_range.mp ‹_ ∈ List.range _›
      rw [eY] at h
      omega
    · rename_i j hj q
      have h := List.mem_range.mp hj
      rw [eY] at h
      rw [getElem!_pos a.nums j (by omega), getElem!_pos y j (by omega)]
      exact (nb _ (List.getElem_mem _)).mulX (yb _ (List.getElem_mem _)) (by decide)
    rw [show ((y.length : Nat) : Int).toNat = y.length by omega]
    have ed : ((List.range y.length).map fun j => D.int (a.nums[j]! * y[j]!)) = ((a.nums.zip y).map fun p => p.1 * p.2).map D.int := by
      rw [← range_dot (by omega), List.map_map]
      rfl
    rw [ed]
    have db := dot_bd nb yb
    have db1 : Bd 142 (dot a.nums y) := db.mono (by omega)
    refine wc_sumI ?_
    show Wg _ _ _ (D.int (dot a.nums y)) _ _ _
    have t0 := ao.t0
    have t1 := ao.t1
    have c0 := ao.b0
    have c1 := ao.b1
    have ta : Bd 20 a.t := by unfold Bd; omega
    have ba : Bd 20 a.b := by unfold Bd; omega
    have m1 := bb.mul ta
    have m2 := m1.mul db1
    have m3 := m2.mul db1
    have m4 := bt.mul ba
    walk_at "gn_3"
    · exact bt.mulX ba (by omega)
    · exact bb.mulX ta (by omega)
    · exact m1.mulX db1 (by omega)
    · exact m2.mulX db1 (by omega)
    · exact bb.mulX ba (by omega)
    refine ⟨_, _, _, _, _, rfl, Int.mul_ne_zero b0 (by omega), ?_, ?_, (bb.mul ba).mono (by omega)⟩
    · rw [take_succ' ha, List.map_append, List.map_cons, List.map_nil, enQ_snoc, ← e, show (rwL a).nums = a.nums from rfl]
      generalize dot a.nums y = d
      have e1 : b * a.t * d * d = a.t * (d * d) * b := by grind
      have e2 : (rwL a).wt = dv a.t a.b := rfl
      have e3 : b * a.b = a.b * b := by grind
      show _ = _ + (rwL a).wt * ((d * d : Int) : Rat)
      rw [e1, dv_addI (Int.mul_ne_zero b0 (by omega)), dv_scale (by omega), e3, dv_scale b0, dv_mulI (by omega), e2]
    · exact ((m4.mono (show _ ≤ 420 + 25 * i by omega)).add (m3.mono (show _ ≤ 420 + 25 * i by omega))).mono (by omega)
  · rintro r' m' ⟨rfl, t, b, o4, o5, o6, rfl, b0, e, bt, bb⟩
    rw [List.length_map] at e bt bb
    rw [List.take_length] at e
    have rl := ok.len
    walk_at "gn_3"
    exact kk t b b0 e (bt.mono (by omega)) (bb.mono (by omega))
end
end K22
set_option Elab.async false
set_option linter.all false
set_option maxRecDepth 100000
set_option maxHeartbeats 4000000
namespace K22
open PySem PySem.Spec L2 DL
open PyProof.Rows hiding St
open SX (S)
/-! one step, by the goal's head -/

/-! Ratio and Span by numbers: their promises used -/

/-! comprehensions, sums, lists of others -/

/-! texts -/

/-! books -/

theorem rwL_ok {w : Nat} {a : Rw} (h : RowOk w a) (w1 : 1 ≤ w) (w2 : w ≤ 12) : LdOk (rwL a) := by
  have e := h.wid
  refine ⟨h.lab, ?_, by show 1 ≤ a.nums.length; omega, by show a.nums.length ≤ 12; omega, h.nb⟩
  have h1 := h.t0
  have h2 := h.b0
  exact (dv_pos (by omega)).mpr (by omega)
theorem rws_bk {w : Nat} {R : List Rw} (h : RwsOk w R) (w1 : 1 ≤ w) (w2 : w ≤ 12) : BkOk w (R.map rwL) := by
  refine ⟨w1, w2, by rw [List.length_map]; have := h.len; omega, fun a ha => ?_, fun a ha => ?_, ?_⟩
  · obtain ⟨e, he, rfl⟩ := List.mem_map.mp ha
    exact rwL_ok (h.ok e he) w1 w2
  · obtain ⟨e, he, rfl⟩ := List.mem_map.mp ha
    exact (h.ok e he).wid
  · have q := h.nd
    rw [List.map_map]
    exact q
/-- a row to be compared with -/
structure EOk (e : Rw) : Prop where
  b0 : e.b ≠ 0
  t : Bd 2000 e.t
  b : Bd 2000 e.b
  n : e.nums.length ≤ 12
theorem row_e {w : Nat} {a : Rw} (h : RowOk w a) (w2 : w ≤ 12) : EOk a := by
  have h1 := h.t0
  have h2 := h.t1
  have h3 := h.b0
  have h4 := h.b1
  have h5 := h.wid
  exact ⟨by omega, (show Bd 20 a.t by unfold Bd; omega).mono (by decide), (show Bd 20 a.b by unfold Bd; omega).mono (by decide), by omega⟩
theorem EOk.qb {e : Rw} (h : EOk e) : Qb 2000 (dv e.t e.b) := qb_of h.b0 h.t h.b
section
variable {W : WX} {E : ET} {ta : TA} {r : Rho} {m : Mu} {K : KT} {G : Gx} {C_Ratio C_Load C_Book C_OutOfBounds : Addr}
def S_made (CB CL CR : Addr) : SpecD := fun ds m K _ => ∃ w R, ds = [.int (w : Nat), .lst (R.map rwD)] ∧ 1 ≤ w ∧ w ≤ 12 ∧ RwsOk w R ∧ K (bkD CB CL CR w (R.map rwL)) m
theorem use_made {CB CL CR : Addr} {w : Nat} {R : List Rw} {m : Mu} {K : KT} {E : Ex → Mu → Prop} (w1 : 1 ≤ w) (w2 : w ≤ 12) (h : RwsOk w R) (k : K (bkD CB CL CR w (R.map rwL)) m) : S_made CB CL CR [.int (w : Nat), .lst (R.map rwD)] m K E := ⟨w, R, rfl, w1, w2, h, k⟩
local macro_rules | `(tactic| walk_at "fld_1") => `(tactic| (with_reducible refine we_fldF ?_))
local macro_rules | `(tactic| walk_at "useWe_1") => `(tactic| first | (with_reducible refine we_app ?_) | (with_reducible refine we_ratQ ?_) | fail)
local macro_rules | `(tactic| walk_at "sWe_1") => `(tactic| first
  | ((with_reducible refine we_var (d := ?d) ?hv ?hk); case hv => rfl)
  | (with_reducible first
    | refine we_cint ?_ | refine we_2 ?_ | refine we_cl0 ?_ | refine we_tup ?_ | refine we_1 ?_ | refine we_c2 ?_ | refine we_cbl ?_ | refine we_cnon ?_ | refine we_cty ?_ | refine we_cref ?_
    | refine we_op ?_ | refine we_andV ?_ | refine we_orV ?_ | refine we_notV ?_ | refine we_3 ?_ | refine we_ifx ?_ | refine we_cstr ?_ | refine we_clH ?_)
  | walk_at "fld_1"
  | walk_at "useWe_1")
local macro_rules | `(tactic| walk_at "useW2_1") => `(tactic| first | (with_reducible refine w2_addS ?_ ?_) | (with_reducible refine w2_eqS ?_) | (with_reducible refine w2_neS ?_) | (with_reducible refine w2_ninS ?_) | (with_reducible refine w2_powF ⟨?_, ?_⟩) | fail)
local macro_rules | `(tactic| walk_at "sW2_1") => `(tactic| first
  | (with_reducible first
    | refine w2_add ?_ | refine w2_sub ?_ | refine w2_mul ⟨?_, ?_⟩ | refine w2_fdiv ⟨?_, ?_⟩ | refine w2_mod ⟨?_, ?_⟩ | refine w2_pow ⟨?_, ?_⟩ | refine w2_eqI ?_ | refine w2_neI ?_ | refine w2_lt ?_ | refine w2_le ?_ | refine w2_gt ?_ | refine w2_ge ?_ | refine w2_eqFI ?_ | refine w2_neFI ?_)
  | ((with_reducible refine w2_ixT (d := ?d) ⟨?hv, ?hk⟩); case hv => rfl)
  | ((with_reducible refine w2_ixL (d := ?d) ⟨?hv, ?hk⟩); case hv => rfl)
  | ((with_reducible refine w2_ixM (d := ?d) .head ⟨?hv, ?hk⟩); case hv => rfl)
  | (with_reducible first
    | refine w2_eqIH ?_ | refine w2_neIH ?_ | refine w2_mulH ⟨?_, ?_⟩ | refine w2_addH ?_ | refine w2_subH ?_ | refine w2_isN ?_ | refine w2_notN ?_ | refine w2_isB ?_ | refine w2_notB ?_)
  | walk_at "useW2_1")
local macro_rules | `(tactic| walk_at "sWa_1") => `(tactic| with_reducible first | refine wa_nil ?_ | refine wa_cons ?_)
local macro_rules | `(tactic| walk_at "useWs_1") => `(tactic| first | (with_reducible refine ws_rs0 ?_) | (with_reducible refine ws_rs ?_) | fail)
local macro_rules | `(tactic| walk_at "sWs_1") => `(tactic| first
  | (with_reducible first | refine ws_seq ?_ | refine ws_ret ?_ | refine ws_asg ?_ | refine ws_next ?_ | refine ws_drop ?_ | refine ws_par ?_ | refine ws_par3 ?_ | refine ws_fldN ?_ | refine ws_brk ?_ | refine ws_cont ?_)
  | walk_at "useWs_1")
local macro_rules | `(tactic| walk_at "sWt_1") => `(tactic| with_reducible first | refine wt_test ?_ | refine wt_tr ?_ | refine wt_and ?_ | refine wt_or ?_ | refine wt_not ?_)
local macro_rules | `(tactic| walk_at "useWc_1") => `(tactic| first | (with_reducible refine wc_listF .lst ?_) | fail)
local macro_rules | `(tactic| walk_at "sWc_1") => `(tactic| first
  | (with_reducible first | refine wc_int ?_ | refine wc_abs ?_ | refine wc_min ?_ | refine wc_gcd ?_ | refine wc_isiT .int kit_ii ?_ | refine wc_isiT .int kit_ib ?_ | refine wc_len .lst ?_ | refine wc_len .tup ?_ | refine wc_strI ?_ ?_)
  | walk_at "useWc_1")
local macro_rules | `(tactic| walk_at "sWi_1") => `(tactic| with_reducible first | refine wi_seq ?_ | refine wi_rng1S ?_ | refine wi_rng2 ?_ | refine wi_zipM ?_)
local macro_rules | `(tactic| walk_at "sWg_1") => `(tactic| with_reducible first | refine wg_name ?_ | refine wg_subM ?_ | refine wg_tup rfl ?_)
local macro_rules | `(tactic| walk_at "sW1_1") => `(tactic| first | (with_reducible refine w1_neg ?_) | walk_at "useW2_1")
local macro_rules | `(tactic| walk_at "sWgs_1") => `(tactic| with_reducible first | refine wgs_cons ?_ | refine wgs_nil ?_)
local macro_rules | `(tactic| walk_at "sS_1") => `(tactic| first | (with_reducible refine SlA.mk ?_ ?_) | (with_reducible refine RngA.mk ?_ ?_) | (with_reducible refine LcS.mk ?_ (fun a ha q => ?_) ?_) | (with_reducible exact LcL.mk rfl rfl) | fail)
local macro_rules | `(tactic| walk_at "use_1") => `(tactic| first | (with_reducible refine ⟨_, _, rfl, .head, ?_⟩) | (with_reducible refine RatQ.mk ?_ ?_ ?_) | fail)
local macro_rules | `(tactic| walk_at "sX_1") => `(tactic| first
  | (with_reducible refine ⟨_, rfl, ?_⟩)
  | (with_reducible refine fld_top (by assumption) ?_) | (with_reducible refine fld_bottom (by assumption) ?_)
  | (with_reducible refine ⟨_, .bl, ?_⟩)
  | ((with_reducible refine ⟨?h, ?_⟩); case h => rfl)
  | (with_reducible refine ⟨_, _, rfl, ?_⟩)
  | (with_reducible refine ⟨_, _, _, rfl, ?_⟩)
  | walk_at "use_1"
  | (with_reducible refine setN_top (by assumption) ?_) | (with_reducible refine setN_bottom (by assumption) ?_)
  | ((with_reducible refine ⟨_, _, _, ?j, _, rfl, rfl, .head, ?h, .head, ?_⟩); case h => rfl)
  | fail)
local macro_rules | `(tactic| walk_at "st_1") => `(tactic| first
  | ((with_reducible show We _ _ _ _ _ _); walk_at "sWe_1")
  | ((with_reducible show W2 _ _ _ _ _ _ _ _); walk_at "sW2_1")
  | ((with_reducible show Wa _ _ _ _ _ _); walk_at "sWa_1")
  | ((with_reducible show Ws _ _ _ _ _ _); walk_at "sWs_1")
  | ((with_reducible show Wt _ _ _ _ _ _); walk_at "sWt_1")
  | ((with_reducible show Wc _ _ _ _ _ _ _); walk_at "sWc_1")
  | ((with_reducible show Wi _ _ _ _ _ _); walk_at "sWi_1")
  | ((with_reducible show Wg _ _ _ _ _ _ _); walk_at "sWg_1")
  | ((with_reducible show W1 _ _ _ _ _ _ _); walk_at "sW1_1")
  | ((with_reducible show Wgs _ _ _ _ _ _ _); walk_at "sWgs_1")
  | walk_at "sS_1" | walk_at "sX_1" | fail)
local macro_rules | `(tactic| walk_at "br_1") => `(tactic| ((with_reducible refine ⟨fun hb => ?_, fun hb => ?_⟩) <;> (try simp only [decide_eq_true_eq, decide_eq_false_iff_not, Bool.not_eq_true', Bool.not_eq_false', Bool.and_eq_true, Bool.or_eq_true, reduceCtorEq, List.length_map, Bool.not_true, Bool.not_false, DL.isNon, not_true_eq_false, not_false_eq_true, Classical.not_not, List.all_cons, List.all_nil, id_eq, Bool.and_self, Bool.true_and, decide_true, decide_false] at hb)))
local macro_rules | `(tactic| walk_at "gn_1") => `(tactic| repeat' (first | walk_at "st_1" | walk_at "br_1" | fail))
theorem ok_made (T : Txt G C_Ratio C_Load C_Book C_OutOfBounds) (k_Ratio : Mak G 1 "Ratio" C_Ratio 3 (S_init C_Ratio) []) (k_Load : Mak G 3 "Load" C_Load 4 (S_load C_Load C_Ratio) []) (k_Book : Mak G 3 "Book" C_Book 3 (S_book C_Book C_Load C_Ratio) []) {f : Addr} {fd : FuncData} (F : L2.Fun G.K "_law_made" "_law_made" s__law_made f fd) (b : L2.Binds G.K fd ["width", "rows"] []) : Fnx G 5 f 2 (S_made C_Book C_Load C_Ratio) [] := by
  refine fnx_of F sc__law_made rfl b .nil rfl (fun cdv A outer s H FF hr tk => ⟨_, (pss_cons (ps_set (i := 2) sc__law_made.nd rfl (Or.inl rfl) (pe_lst pa_nil)) (pss_cons (ps_for (passes_of rfl) rfl (pi_seq (pe_var (i := 1) rfl (Or.inl rfl) nd_rows.1 nd_rows.2)) (pg_name (i := 3) sc__law_made.nd rfl (Or.inl rfl)) (pss_one (ps_expr (pe_bm PySem.F.plainAttrs_list PySem.F.slot_list_append PySem.F.type_list_append mt_append (pe_var (i := 2) rfl (Or.inl rfl) nd_loads.1 nd_loads.2) (pa_cons (pe_mak k_Load hr (by decide) tk rfl (pa_cons (pe_ix ix_seq (pe_var (i := 3) rfl (Or.inl rfl) nd_row.1 nd_row.2) pe_int (fun _ _ => rfl)) (pa_cons (pe_mak k_Ratio hr (by decide) tk rfl (pa_cons (pe_ix ix_seq (pe_ix ix_seq (pe_var (i := 3) rfl (Or.inl rfl) nd_row.1 nd_row.2) pe_int (fun _ _ => rfl)) pe_int (fun _ _ => rfl)) (pa_cons (pe_ix ix_seq (pe_ix ix_seq (pe_var (i := 3) rfl (Or.inl rfl) nd_row.1 nd_row.2) pe_int (fun _ _ => rfl)) pe_int (fun _ _ => rfl)) pa_nil))) (pa_cons (pe_ct (oc := cListF G) cs_list rfl T.n_list bt_list (pa_cons (pe_ix ix_seq (pe_var (i := 3) rfl (Or.inl rfl) nd_row.1 nd_row.2) pe_int (fun _ _ => rfl)) pa_nil)) pa_nil)))) pa_nil))))) (pss_one (ps_ret (pe_mak k_Book hr (by decide) tk rfl (pa_cons (pe_var (i := 0) rfl (Or.inl rfl) nd_width.1 nd_width.2) (pa_cons (pe_var (i := 2) rfl (Or.inl rfl) nd_loads.1 nd_loads.2) pa_nil))))))), ?_⟩)
  rintro ds m K E - ⟨w, R, rfl, w1, w2, ok, kk⟩
  show Ws _ _ _ [some (.int (w : Nat)), some (.lst (R.map rwD)), none, none] _ _
  try dsimp only [cx_G, cx_K]
  have rl := ok.len
  refine ws_seq (ws_asg (we_lstM (wa_nil ⟨rfl, fun q hf => wg_name ?_⟩)))
  walk_at "gn_1"
  refine ws_seqI (we_var (i := 1) (d := .lst (R.map rwD)) rfl ⟨_, fun i r' m' => m' = (q, .lst ((R.take i).map fun a => ldD C_Load C_Ratio (rwL a))) :: m ∧ ∃ o3, r' = [some (.int (w : Nat)), some (.lst (R.map rwD)), some (.ref q), o3], .lst, ⟨by rw [List.take_zero]; rfl, none, rfl⟩, ?_, ?_⟩)
  · rintro i x r' m' hx ⟨rfl, o3, rfl⟩
    rw [List.getElem?_map] at hx
    obtain ⟨a, ha, rfl⟩ := Option.map_eq_some_iff.mp hx
    have ao := ok.ok a (List.mem_of_getElem? ha)
    have hb0 := ao.b0
    have hb1 := ao.b1
    have hi : i < R.length := (List.getElem?_eq_some_iff.mp ha).1
    walk_at "gn_1"
    refine we_ld ?_
    walk_at "gn_1"
    · omega
    · exact (show Bd 20 a.b by unfold Bd; omega).mono (by decide)
    walk_at "gn_1"
    refine ⟨rwL a, li a.nums, rfl, rwL_ok ao w1 w2, .inl rfl, ?_⟩
    walk_at "gn_1"
    refine ⟨_, _, _, rfl, .head, ?_, .head, ?_⟩
    · rw [List.length_map, List.length_take]
      omega
    walk_at "gn_1"
    exact ⟨by rw [take_succ' ha, List.map_append]; rfl, _, rfl⟩
  · rintro r' m' ⟨rfl, o3, rfl⟩
    rw [List.length_map, List.take_length]
    refine Ws.freeze (i := 2) rfl ?_
    walk_at "gn_1"
    refine we_bk ?_
    walk_at "gn_1"
    refine ⟨w, R.map rwL, by rw [List.map_map]; rfl, rws_bk ok w1 w2, kk⟩
theorem kit_tt {K : PySem.W.Frag} : PySem.W.kitOne K (.type "tuple") (.type "tuple") = some true := kit_ty (by decide +kernel)
def S_ntold : SpecD := fun ds m K _ => ∃ l : List Int, ds = [tup l, li l] ∧ l.length ≤ 12 ∧ K (.bl true) m
theorem use_ntold {l : List Int} {m : Mu} {K : KT} {E : Ex → Mu → Prop} (h : l.length ≤ 12) (k : K (.bl true) m) : S_ntold [tup l, li l] m K E := ⟨l, rfl, h, k⟩
local macro_rules | `(tactic| walk_at "fld_2") => `(tactic| (with_reducible refine we_fldF ?_))
local macro_rules | `(tactic| walk_at "useWe_2") => `(tactic| first | (with_reducible refine we_app ?_) | (with_reducible refine we_ratQ ?_) | fail)
local macro_rules | `(tactic| walk_at "sWe_2") => `(tactic| first
  | ((with_reducible refine we_var (d := ?d) ?hv ?hk); case hv => rfl)
  | (with_reducible first
    | refine we_cint ?_ | refine we_2 ?_ | refine we_cl0 ?_ | refine we_tup ?_ | refine we_1 ?_ | refine we_c2 ?_ | refine we_cbl ?_ | refine we_cnon ?_ | refine we_cty ?_ | refine we_cref ?_
    | refine we_op ?_ | refine we_andV ?_ | refine we_orV ?_ | refine we_notV ?_ | refine we_3 ?_ | refine we_ifx ?_ | refine we_cstr ?_ | refine we_clH ?_)
  | walk_at "fld_2"
  | walk_at "useWe_2")
local macro_rules | `(tactic| walk_at "useW2_2") => `(tactic| first | (with_reducible refine w2_ixT ⟨ix_map ?_, ?_⟩) | (with_reducible refine w2_ixL ⟨ix_map ?_, ?_⟩) | fail)
local macro_rules | `(tactic| walk_at "sW2_2") => `(tactic| first
  | (with_reducible first
    | refine w2_add ?_ | refine w2_sub ?_ | refine w2_mul ⟨?_, ?_⟩ | refine w2_fdiv ⟨?_, ?_⟩ | refine w2_mod ⟨?_, ?_⟩ | refine w2_pow ⟨?_, ?_⟩ | refine w2_eqI ?_ | refine w2_neI ?_ | refine w2_lt ?_ | refine w2_le ?_ | refine w2_gt ?_ | refine w2_ge ?_ | refine w2_eqFI ?_ | refine w2_neFI ?_)
  | ((with_reducible refine w2_ixT (d := ?d) ⟨?hv, ?hk⟩); case hv => rfl)
  | ((with_reducible refine w2_ixL (d := ?d) ⟨?hv, ?hk⟩); case hv => rfl)
  | ((with_reducible refine w2_ixM (d := ?d) .head ⟨?hv, ?hk⟩); case hv => rfl)
  | (with_reducible first
    | refine w2_eqIH ?_ | refine w2_neIH ?_ | refine w2_mulH ⟨?_, ?_⟩ | refine w2_addH ?_ | refine w2_subH ?_ | refine w2_isN ?_ | refine w2_notN ?_ | refine w2_isB ?_ | refine w2_notB ?_)
  | walk_at "useW2_2")
local macro_rules | `(tactic| walk_at "sWa_2") => `(tactic| with_reducible first | refine wa_nil ?_ | refine wa_cons ?_)
local macro_rules | `(tactic| walk_at "useWs_2") => `(tactic| first | (with_reducible refine ws_rs0 ?_) | (with_reducible refine ws_rs ?_) | fail)
local macro_rules | `(tactic| walk_at "sWs_2") => `(tactic| first
  | (with_reducible first | refine ws_seq ?_ | refine ws_ret ?_ | refine ws_asg ?_ | refine ws_next ?_ | refine ws_drop ?_ | refine ws_par ?_ | refine ws_par3 ?_ | refine ws_fldN ?_ | refine ws_brk ?_ | refine ws_cont ?_)
  | walk_at "useWs_2")
local macro_rules | `(tactic| walk_at "sWt_2") => `(tactic| with_reducible first | refine wt_test ?_ | refine wt_tr ?_ | refine wt_and ?_ | refine wt_or ?_ | refine wt_not ?_)
local macro_rules | `(tactic| walk_at "useWc_2") => `(tactic| first | (with_reducible refine wc_isiT .tup kit_tt ?_) | fail)
local macro_rules | `(tactic| walk_at "sWc_2") => `(tactic| first
  | (with_reducible first | refine wc_int ?_ | refine wc_abs ?_ | refine wc_min ?_ | refine wc_gcd ?_ | refine wc_isiT .int kit_ii ?_ | refine wc_isiT .int kit_ib ?_ | refine wc_len .lst ?_ | refine wc_len .tup ?_ | refine wc_strI ?_ ?_)
  | walk_at "useWc_2")
local macro_rules | `(tactic| walk_at "sWi_2") => `(tactic| with_reducible first | refine wi_seq ?_ | refine wi_rng1S ?_ | refine wi_rng2 ?_ | refine wi_zipM ?_)
local macro_rules | `(tactic| walk_at "sWg_2") => `(tactic| with_reducible first | refine wg_name ?_ | refine wg_subM ?_ | refine wg_tup rfl ?_)
local macro_rules | `(tactic| walk_at "sW1_2") => `(tactic| first | (with_reducible refine w1_neg ?_) | walk_at "useW2_2")
local macro_rules | `(tactic| walk_at "sWgs_2") => `(tactic| with_reducible first | refine wgs_cons ?_ | refine wgs_nil ?_)
local macro_rules | `(tactic| walk_at "sS_2") => `(tactic| first | (with_reducible refine SlA.mk ?_ ?_) | (with_reducible refine RngA.mk ?_ ?_) | (with_reducible refine LcS.mk ?_ (fun a ha q => ?_) ?_) | (with_reducible exact LcL.mk rfl rfl) | fail)
local macro_rules | `(tactic| walk_at "use_2") => `(tactic| first | (with_reducible refine use_whole ?_) | fail)
local macro_rules | `(tactic| walk_at "sX_2") => `(tactic| first
  | (with_reducible refine ⟨_, rfl, ?_⟩)
  | (with_reducible refine fld_top (by assumption) ?_) | (with_reducible refine fld_bottom (by assumption) ?_)
  | (with_reducible refine ⟨_, .bl, ?_⟩)
  | ((with_reducible refine ⟨?h, ?_⟩); case h => rfl)
  | (with_reducible refine ⟨_, _, rfl, ?_⟩)
  | (with_reducible refine ⟨_, _, _, rfl, ?_⟩)
  | walk_at "use_2"
  | (with_reducible refine setN_top (by assumption) ?_) | (with_reducible refine setN_bottom (by assumption) ?_)
  | ((with_reducible refine ⟨_, _, _, ?j, _, rfl, rfl, .head, ?h, .head, ?_⟩); case h => rfl)
  | fail)
local macro_rules | `(tactic| walk_at "st_2") => `(tactic| first
  | ((with_reducible show We _ _ _ _ _ _); walk_at "sWe_2")
  | ((with_reducible show W2 _ _ _ _ _ _ _ _); walk_at "sW2_2")
  | ((with_reducible show Wa _ _ _ _ _ _); walk_at "sWa_2")
  | ((with_reducible show Ws _ _ _ _ _ _); walk_at "sWs_2")
  | ((with_reducible show Wt _ _ _ _ _ _); walk_at "sWt_2")
  | ((with_reducible show Wc _ _ _ _ _ _ _); walk_at "sWc_2")
  | ((with_reducible show Wi _ _ _ _ _ _); walk_at "sWi_2")
  | ((with_reducible show Wg _ _ _ _ _ _ _); walk_at "sWg_2")
  | ((with_reducible show W1 _ _ _ _ _ _ _); walk_at "sW1_2")
  | ((with_reducible show Wgs _ _ _ _ _ _ _); walk_at "sWgs_2")
  | walk_at "sS_2" | walk_at "sX_2" | fail)
local macro_rules | `(tactic| walk_at "wif_2") => `(tactic| (with_reducible refine ws_if ?_))
local macro_rules | `(tactic| walk_at "br_2") => `(tactic| ((with_reducible refine ⟨fun hb => ?_, fun hb => ?_⟩) <;> (try simp only [decide_eq_true_eq, decide_eq_false_iff_not, Bool.not_eq_true', Bool.not_eq_false', Bool.and_eq_true, Bool.or_eq_true, reduceCtorEq, List.length_map, Bool.not_true, Bool.not_false, DL.isNon, not_true_eq_false, not_false_eq_true, Classical.not_not, List.all_cons, List.all_nil, id_eq, Bool.and_self, Bool.true_and, decide_true, decide_false] at hb)))
local macro_rules | `(tactic| walk_at "go_2") => `(tactic| repeat' (first | walk_at "st_2" | walk_at "wif_2" | walk_at "br_2" | fail))
theorem ok_ntold (T : Txt G C_Ratio C_Load C_Book C_OutOfBounds) (c__law_whole : Cal G 1 "_law_whole" 1 S_whole []) {f : Addr} {fd : FuncData} (F : L2.Fun G.K "_law_numbers_told" "_law_numbers_told" s__law_numbers_told f fd) (b : L2.Binds G.K fd ["told", "due"] []) : Fnx G 2 f 2 S_ntold [] := by
  refine fnx_of F sc__law_numbers_told rfl b .nil rfl (fun cdv A outer s H FF hr tk => ⟨_, (pss_cons (ps_if (PW.pt (pw_or (pt_not (pt_tr (pe_cb cs_isi rfl T.n_isinstance bt_isinstance (pa_cons (pe_var (i := 0) rfl (Or.inl rfl) nd_told.1 nd_told.2) (pa_cons (pe_bltn (v := .ty "tuple") rfl T.n_tuple bt_tuple rfl) pa_nil))))) (pw_or1 (pt_cm (os_neF hr tk) (pe_cb cs_len rfl T.n_len bt_len (pa_cons (pe_var (i := 0) rfl (Or.inl rfl) nd_told.1 nd_told.2) pa_nil)) (pe_cb cs_len rfl T.n_len bt_len (pa_cons (pe_var (i := 1) rfl (Or.inl rfl) nd_due.1 nd_due.2) pa_nil)) (nomark _))))) (pss_one (ps_ret pe_bl)) pss_nil) (pss_cons (ps_for (passes_of rfl) rfl (pi_range1 rfl T.n_range (pa_cons (pe_cb cs_len rfl T.n_len bt_len (pa_cons (pe_var (i := 1) rfl (Or.inl rfl) nd_due.1 nd_due.2) pa_nil)) pa_nil)) (pg_name (i := 2) sc__law_numbers_told.nd rfl (Or.inl rfl)) (pss_one (ps_if (PW.pt (pw_or (pt_not (pt_tr (pe_cl c__law_whole hr (by decide) tk rfl (pa_cons (pe_ix ix_seq (pe_var (i := 0) rfl (Or.inl rfl) nd_told.1 nd_told.2) (pe_var (i := 2) rfl (Or.inl rfl) nd_k.1 nd_k.2) (fun _ _ => rfl)) pa_nil)))) (pw_or1 (pt_cm (os_neF hr tk) (pe_ix ix_seq (pe_var (i := 0) rfl (Or.inl rfl) nd_told.1 nd_told.2) (pe_var (i := 2) rfl (Or.inl rfl) nd_k.1 nd_k.2) (fun _ _ => rfl)) (pe_ix ix_seq (pe_var (i := 1) rfl (Or.inl rfl) nd_due.1 nd_due.2) (pe_var (i := 2) rfl (Or.inl rfl) nd_k.1 nd_k.2) (fun _ _ => rfl)) (nomark _))))) (pss_one (ps_ret pe_bl)) pss_nil))) (pss_one (ps_ret pe_bl)))), ?_⟩)
  rintro ds m K E - ⟨l, rfl, hl, kk⟩
  show Ws _ _ _ [some (tup l), some (li l), none] _ _
  try dsimp only [cx_G, cx_K]
  have eL : (((l.map D.int).length : Nat) : Int) = (l.length : Nat) := by rw [List.length_map]
  walk_at "go_2"
  all_goals try (exfalso; omega)
  refine ws_range1 ?_
  walk_at "go_2"
  rw [eL]
  refine ⟨_, fun i r' m' => m' = m ∧ ∃ o, r' = [some (tup l), some (li l), o], rfl, by omega, ⟨rfl, none, rfl⟩, ?_, ?_⟩
  · rintro i r' m' hi ⟨rfl, o, rfl⟩
    have h2 : i < l.length := by omega
    walk_at "go_2"
    all_goals try first | exact h2 | (exfalso; exact absurd rfl ‹_›) | exact ⟨rfl, _, rfl⟩ | exact ⟨_, rfl⟩
  · rintro r' m' ⟨rfl, o, rfl⟩
    walk_at "go_2"
    exact kk
def S_ltold (CL CR : Addr) : SpecD := fun ds m K _ => ∃ e : Rw, ds = [ldD CL CR (rwL e), rwD e] ∧ EOk e ∧ K (.bl true) m
theorem use_ltold {CL CR : Addr} {e : Rw} {m : Mu} {K : KT} {E : Ex → Mu → Prop} (h : EOk e) (k : K (.bl true) m) : S_ltold CL CR [ldD CL CR (rwL e), rwD e] m K E := ⟨e, rfl, h, k⟩
local macro_rules | `(tactic| walk_at "fld_3") => `(tactic| (with_reducible refine we_fldF ?_))
local macro_rules | `(tactic| walk_at "useWe_3") => `(tactic| first | (with_reducible refine we_app ?_) | (with_reducible refine we_ratQ ?_) | fail)
local macro_rules | `(tactic| walk_at "sWe_3") => `(tactic| first
  | ((with_reducible refine we_var (d := ?d) ?hv ?hk); case hv => rfl)
  | (with_reducible first
    | refine we_cint ?_ | refine we_2 ?_ | refine we_cl0 ?_ | refine we_tup ?_ | refine we_1 ?_ | refine we_c2 ?_ | refine we_cbl ?_ | refine we_cnon ?_ | refine we_cty ?_ | refine we_cref ?_
    | refine we_op ?_ | refine we_andV ?_ | refine we_orV ?_ | refine we_notV ?_ | refine we_3 ?_ | refine we_ifx ?_ | refine we_cstr ?_ | refine we_clH ?_)
  | walk_at "fld_3"
  | walk_at "useWe_3")
local macro_rules | `(tactic| walk_at "useW2_3") => `(tactic| first | (with_reducible refine w2_eqS ?_) | (with_reducible refine w2_neS ?_) | fail)
local macro_rules | `(tactic| walk_at "sW2_3") => `(tactic| first
  | (with_reducible first
    | refine w2_add ?_ | refine w2_sub ?_ | refine w2_mul ⟨?_, ?_⟩ | refine w2_fdiv ⟨?_, ?_⟩ | refine w2_mod ⟨?_, ?_⟩ | refine w2_pow ⟨?_, ?_⟩ | refine w2_eqI ?_ | refine w2_neI ?_ | refine w2_lt ?_ | refine w2_le ?_ | refine w2_gt ?_ | refine w2_ge ?_ | refine w2_eqFI ?_ | refine w2_neFI ?_)
  | ((with_reducible refine w2_ixT (d := ?d) ⟨?hv, ?hk⟩); case hv => rfl)
  | ((with_reducible refine w2_ixL (d := ?d) ⟨?hv, ?hk⟩); case hv => rfl)
  | ((with_reducible refine w2_ixM (d := ?d) .head ⟨?hv, ?hk⟩); case hv => rfl)
  | (with_reducible first
    | refine w2_eqIH ?_ | refine w2_neIH ?_ | refine w2_mulH ⟨?_, ?_⟩ | refine w2_addH ?_ | refine w2_subH ?_ | refine w2_isN ?_ | refine w2_notN ?_ | refine w2_isB ?_ | refine w2_notB ?_)
  | walk_at "useW2_3")
local macro_rules | `(tactic| walk_at "sWa_3") => `(tactic| with_reducible first | refine wa_nil ?_ | refine wa_cons ?_)
local macro_rules | `(tactic| walk_at "useWs_3") => `(tactic| first | (with_reducible refine ws_rs0 ?_) | (with_reducible refine ws_rs ?_) | fail)
local macro_rules | `(tactic| walk_at "sWs_3") => `(tactic| first
  | (with_reducible first | refine ws_seq ?_ | refine ws_ret ?_ | refine ws_asg ?_ | refine ws_next ?_ | refine ws_drop ?_ | refine ws_par ?_ | refine ws_par3 ?_ | refine ws_fldN ?_ | refine ws_brk ?_ | refine ws_cont ?_)
  | walk_at "useWs_3")
local macro_rules | `(tactic| walk_at "sWt_3") => `(tactic| with_reducible first | refine wt_test ?_ | refine wt_tr ?_ | refine wt_and ?_ | refine wt_or ?_ | refine wt_not ?_)
local macro_rules | `(tactic| walk_at "useWc_3") => `(tactic| first | (with_reducible refine wc_isiT .str kit_ss ?_) | (with_reducible refine wc_isiT .tup kit_tt ?_) | (with_reducible refine wc_isiC (.ins (by assumption)) (by assumption) ?_) | fail)
local macro_rules | `(tactic| walk_at "sWc_3") => `(tactic| first
  | (with_reducible first | refine wc_int ?_ | refine wc_abs ?_ | refine wc_min ?_ | refine wc_gcd ?_ | refine wc_isiT .int kit_ii ?_ | refine wc_isiT .int kit_ib ?_ | refine wc_len .lst ?_ | refine wc_len .tup ?_ | refine wc_strI ?_ ?_)
  | walk_at "useWc_3")
local macro_rules | `(tactic| walk_at "sWi_3") => `(tactic| with_reducible first | refine wi_seq ?_ | refine wi_rng1S ?_ | refine wi_rng2 ?_ | refine wi_zipM ?_)
local macro_rules | `(tactic| walk_at "sWg_3") => `(tactic| with_reducible first | refine wg_name ?_ | refine wg_subM ?_ | refine wg_tup rfl ?_)
local macro_rules | `(tactic| walk_at "sW1_3") => `(tactic| first | (with_reducible refine w1_neg ?_) | walk_at "useW2_3")
local macro_rules | `(tactic| walk_at "sWgs_3") => `(tactic| with_reducible first | refine wgs_cons ?_ | refine wgs_nil ?_)
local macro_rules | `(tactic| walk_at "sS_3") => `(tactic| first | (with_reducible refine SlA.mk ?_ ?_) | (with_reducible refine RngA.mk ?_ ?_) | (with_reducible refine LcS.mk ?_ (fun a ha q => ?_) ?_) | (with_reducible exact LcL.mk rfl rfl) | fail)
local macro_rules | `(tactic| walk_at "bks_3") => `(tactic| first
  | (with_reducible refine fld_label (by assumption) ?_) | (with_reducible refine fld_weight (by assumption) ?_) | (with_reducible refine fld_numbers (by assumption) ?_)
  | (with_reducible refine fld_bwidth (by assumption) ?_) | (with_reducible refine fld_loads (by assumption) ?_) | (with_reducible refine fld_places (by assumption) ?_))
local macro_rules | `(tactic| walk_at "use_3") => `(tactic| first | walk_at "bks_3" | fail)
local macro_rules | `(tactic| walk_at "sX_3") => `(tactic| first
  | (with_reducible refine ⟨_, rfl, ?_⟩)
  | (with_reducible refine fld_top (by assumption) ?_) | (with_reducible refine fld_bottom (by assumption) ?_)
  | (with_reducible refine ⟨_, .bl, ?_⟩)
  | ((with_reducible refine ⟨?h, ?_⟩); case h => rfl)
  | (with_reducible refine ⟨_, _, rfl, ?_⟩)
  | (with_reducible refine ⟨_, _, _, rfl, ?_⟩)
  | walk_at "use_3"
  | (with_reducible refine setN_top (by assumption) ?_) | (with_reducible refine setN_bottom (by assumption) ?_)
  | ((with_reducible refine ⟨_, _, _, ?j, _, rfl, rfl, .head, ?h, .head, ?_⟩); case h => rfl)
  | fail)
local macro_rules | `(tactic| walk_at "st_3") => `(tactic| first
  | ((with_reducible show We _ _ _ _ _ _); walk_at "sWe_3")
  | ((with_reducible show W2 _ _ _ _ _ _ _ _); walk_at "sW2_3")
  | ((with_reducible show Wa _ _ _ _ _ _); walk_at "sWa_3")
  | ((with_reducible show Ws _ _ _ _ _ _); walk_at "sWs_3")
  | ((with_reducible show Wt _ _ _ _ _ _); walk_at "sWt_3")
  | ((with_reducible show Wc _ _ _ _ _ _ _); walk_at "sWc_3")
  | ((with_reducible show Wi _ _ _ _ _ _); walk_at "sWi_3")
  | ((with_reducible show Wg _ _ _ _ _ _ _); walk_at "sWg_3")
  | ((with_reducible show W1 _ _ _ _ _ _ _); walk_at "sW1_3")
  | ((with_reducible show Wgs _ _ _ _ _ _ _); walk_at "sWgs_3")
  | walk_at "sS_3" | walk_at "sX_3" | fail)
local macro_rules | `(tactic| walk_at "br_3") => `(tactic| ((with_reducible refine ⟨fun hb => ?_, fun hb => ?_⟩) <;> (try simp only [decide_eq_true_eq, decide_eq_false_iff_not, Bool.not_eq_true', Bool.not_eq_false', Bool.and_eq_true, Bool.or_eq_true, reduceCtorEq, List.length_map, Bool.not_true, Bool.not_false, DL.isNon, not_true_eq_false, not_false_eq_true, Classical.not_not, List.all_cons, List.all_nil, id_eq, Bool.and_self, Bool.true_and, decide_true, decide_false] at hb)))
local macro_rules | `(tactic| walk_at "gn_3") => `(tactic| repeat' (first | walk_at "st_3" | walk_at "br_3" | fail))
theorem ok_ltold (T : Txt G C_Ratio C_Load C_Book C_OutOfBounds) (c__law_alike : Cal G 2 "_law_alike" 3 (S_alike C_Ratio) []) (c__law_numbers_told : Cal G 2 "_law_numbers_told" 2 S_ntold []) {f : Addr} {fd : FuncData} (F : L2.Fun G.K "_law_load_told" "_law_load_told" s__law_load_told f fd) (b : L2.Binds G.K fd ["told", "row"] []) : Fnx G 3 f 2 (S_ltold C_Load C_Ratio) [] := by
  refine fnx_of F sc__law_load_told rfl b .nil rfl (fun cdv A outer s H FF hr tk => ⟨_, (pss_cons (ps_if (PW.pt (pw_or (pt_not (pt_tr (pe_cb cs_isi rfl T.n_isinstance bt_isinstance (pa_cons (pe_var (i := 0) rfl (Or.inl rfl) nd_told.1 nd_told.2) (pa_cons (pe_glob (v := .ref C_Load) rfl T.mg_Load rfl) pa_nil))))) (pw_or1 (pt_not (pt_tr (pe_cb cs_isi rfl T.n_isinstance bt_isinstance (pa_cons (pe_fld (pe_var (i := 0) rfl (Or.inl rfl) nd_told.1 nd_told.2) rfl) (pa_cons (pe_bltn (v := .ty "str") rfl T.n_str bt_str rfl) pa_nil)))))))) (pss_one (ps_ret pe_bl)) pss_nil) (pss_cons (ps_if (PW.pt (pw_or (pt_cm (os_neF hr tk) (pe_fld (pe_var (i := 0) rfl (Or.inl rfl) nd_told.1 nd_told.2) rfl) (pe_ix ix_seq (pe_var (i := 1) rfl (Or.inl rfl) nd_row.1 nd_row.2) pe_int (fun _ _ => rfl)) (nomark _)) (pw_or1 (pt_not (pt_tr (pe_cl c__law_alike hr (by decide) tk rfl (pa_cons (pe_fld (pe_var (i := 0) rfl (Or.inl rfl) nd_told.1 nd_told.2) rfl) (pa_cons (pe_ix ix_seq (pe_ix ix_seq (pe_var (i := 1) rfl (Or.inl rfl) nd_row.1 nd_row.2) pe_int (fun _ _ => rfl)) pe_int (fun _ _ => rfl)) (pa_cons (pe_ix ix_seq (pe_ix ix_seq (pe_var (i := 1) rfl (Or.inl rfl) nd_row.1 nd_row.2) pe_int (fun _ _ => rfl)) pe_int (fun _ _ => rfl)) pa_nil))))))))) (pss_one (ps_ret pe_bl)) pss_nil) (pss_one (ps_ret (pe_cl c__law_numbers_told hr (by decide) tk rfl (pa_cons (pe_fld (pe_var (i := 0) rfl (Or.inl rfl) nd_told.1 nd_told.2) rfl) (pa_cons (pe_ix ix_seq (pe_var (i := 1) rfl (Or.inl rfl) nd_row.1 nd_row.2) pe_int (fun _ _ => rfl)) pa_nil))))))), ?_⟩)
  rintro ds m K E - ⟨e, rfl, ok, kk⟩
  show Ws _ _ _ [some (.ins C_Load lN [ts e.lab, rq C_Ratio (dv e.t e.b), tup e.nums]), some (rwD e)] _ _
  try dsimp only [cx_G, cx_K]
  have R := T.R_Ratio
  have LD := T.L_Load
  have LI := LD.ins
  have iL := T.is_Load_Load
  have qb := ok.qb
  walk_at "gn_3"
  refine ws_if ?_
  walk_at "gn_3"
  all_goals try contradiction
  refine ws_if ?_
  walk_at "gn_3"
  all_goals try contradiction
  refine use_alike ok.b0 rfl (qb.mono (by decide)) (ok.t.mono (by decide)) (ok.b.mono (by decide)) ?_
  walk_at "gn_3"
  all_goals try contradiction
  exact use_ntold ok.n kk
def S_same (CB CL CR : Addr) : SpecD := fun ds m K _ => ∃ (w : Nat) (R : List Rw), ds = [bkD CB CL CR w (R.map rwL), .int (w : Nat), .lst (R.map rwD)] ∧ R.length ≤ 200 ∧ (∀ e ∈ R, EOk e) ∧ K (.bl true) m
theorem use_same {CB CL CR : Addr} {w : Nat} {R : List Rw} {m : Mu} {K : KT} {E : Ex → Mu → Prop} (hl : R.length ≤ 200) (h : ∀ e ∈ R, EOk e) (k : K (.bl true) m) : S_same CB CL CR [bkD CB CL CR w (R.map rwL), .int (w : Nat), .lst (R.map rwD)] m K E := ⟨w, R, rfl, hl, h, k⟩
local macro_rules | `(tactic| walk_at "fld_4") => `(tactic| (with_reducible refine we_fldF ?_))
local macro_rules | `(tactic| walk_at "useWe_4") => `(tactic| first | (with_reducible refine we_app ?_) | (with_reducible refine we_ratQ ?_) | fail)
local macro_rules | `(tactic| walk_at "sWe_4") => `(tactic| first
  | ((with_reducible refine we_var (d := ?d) ?hv ?hk); case hv => rfl)
  | (with_reducible first
    | refine we_cint ?_ | refine we_2 ?_ | refine we_cl0 ?_ | refine we_tup ?_ | refine we_1 ?_ | refine we_c2 ?_ | refine we_cbl ?_ | refine we_cnon ?_ | refine we_cty ?_ | refine we_cref ?_
    | refine we_op ?_ | refine we_andV ?_ | refine we_orV ?_ | refine we_notV ?_ | refine we_3 ?_ | refine we_ifx ?_ | refine we_cstr ?_ | refine we_clH ?_)
  | walk_at "fld_4"
  | walk_at "useWe_4")
local macro_rules | `(tactic| walk_at "useW2_4") => `(tactic| fail)
local macro_rules | `(tactic| walk_at "sW2_4") => `(tactic| first
  | (with_reducible first
    | refine w2_add ?_ | refine w2_sub ?_ | refine w2_mul ⟨?_, ?_⟩ | refine w2_fdiv ⟨?_, ?_⟩ | refine w2_mod ⟨?_, ?_⟩ | refine w2_pow ⟨?_, ?_⟩ | refine w2_eqI ?_ | refine w2_neI ?_ | refine w2_lt ?_ | refine w2_le ?_ | refine w2_gt ?_ | refine w2_ge ?_ | refine w2_eqFI ?_ | refine w2_neFI ?_)
  | ((with_reducible refine w2_ixT (d := ?d) ⟨?hv, ?hk⟩); case hv => rfl)
  | ((with_reducible refine w2_ixL (d := ?d) ⟨?hv, ?hk⟩); case hv => rfl)
  | ((with_reducible refine w2_ixM (d := ?d) .head ⟨?hv, ?hk⟩); case hv => rfl)
  | (with_reducible first
    | refine w2_eqIH ?_ | refine w2_neIH ?_ | refine w2_mulH ⟨?_, ?_⟩ | refine w2_addH ?_ | refine w2_subH ?_ | refine w2_isN ?_ | refine w2_notN ?_ | refine w2_isB ?_ | refine w2_notB ?_)
  | walk_at "useW2_4")
local macro_rules | `(tactic| walk_at "sWa_4") => `(tactic| with_reducible first | refine wa_nil ?_ | refine wa_cons ?_)
local macro_rules | `(tactic| walk_at "useWs_4") => `(tactic| first | (with_reducible refine ws_rs0 ?_) | (with_reducible refine ws_rs ?_) | fail)
local macro_rules | `(tactic| walk_at "sWs_4") => `(tactic| first
  | (with_reducible first | refine ws_seq ?_ | refine ws_ret ?_ | refine ws_asg ?_ | refine ws_next ?_ | refine ws_drop ?_ | refine ws_par ?_ | refine ws_par3 ?_ | refine ws_fldN ?_ | refine ws_brk ?_ | refine ws_cont ?_)
  | walk_at "useWs_4")
local macro_rules | `(tactic| walk_at "sWt_4") => `(tactic| with_reducible first | refine wt_test ?_ | refine wt_tr ?_ | refine wt_and ?_ | refine wt_or ?_ | refine wt_not ?_)
local macro_rules | `(tactic| walk_at "useWc_4") => `(tactic| first | (with_reducible refine wc_isiT .tup kit_tt ?_) | (with_reducible refine wc_isiC (.ins (by assumption)) (by assumption) ?_) | (with_reducible refine wc_lenOI .tup ?_) | (with_reducible refine wc_lenOI .lst ?_) | fail)
local macro_rules | `(tactic| walk_at "sWc_4") => `(tactic| first
  | (with_reducible first | refine wc_int ?_ | refine wc_abs ?_ | refine wc_min ?_ | refine wc_gcd ?_ | refine wc_isiT .int kit_ii ?_ | refine wc_isiT .int kit_ib ?_ | refine wc_len .lst ?_ | refine wc_len .tup ?_ | refine wc_strI ?_ ?_)
  | walk_at "useWc_4")
local macro_rules | `(tactic| walk_at "sWi_4") => `(tactic| with_reducible first | refine wi_seq ?_ | refine wi_rng1S ?_ | refine wi_rng2 ?_ | refine wi_zipM ?_)
local macro_rules | `(tactic| walk_at "sWg_4") => `(tactic| with_reducible first | refine wg_name ?_ | refine wg_subM ?_ | refine wg_tup rfl ?_)
local macro_rules | `(tactic| walk_at "sW1_4") => `(tactic| first | (with_reducible refine w1_neg ?_) | walk_at "useW2_4")
local macro_rules | `(tactic| walk_at "sWgs_4") => `(tactic| with_reducible first | refine wgs_cons ?_ | refine wgs_nil ?_)
local macro_rules | `(tactic| walk_at "sS_4") => `(tactic| first | (with_reducible refine SlA.mk ?_ ?_) | (with_reducible refine RngA.mk ?_ ?_) | (with_reducible refine LcS.mk ?_ (fun a ha q => ?_) ?_) | (with_reducible exact LcL.mk rfl rfl) | fail)
local macro_rules | `(tactic| walk_at "bks_4") => `(tactic| first
  | (with_reducible refine fld_label (by assumption) ?_) | (with_reducible refine fld_weight (by assumption) ?_) | (with_reducible refine fld_numbers (by assumption) ?_)
  | (with_reducible refine fld_bwidth (by assumption) ?_) | (with_reducible refine fld_loads (by assumption) ?_) | (with_reducible refine fld_places (by assumption) ?_))
local macro_rules | `(tactic| walk_at "use_4") => `(tactic| first | walk_at "bks_4" | (with_reducible refine use_whole ?_) | fail)
local macro_rules | `(tactic| walk_at "sX_4") => `(tactic| first
  | (with_reducible refine ⟨_, rfl, ?_⟩)
  | (with_reducible refine fld_top (by assumption) ?_) | (with_reducible refine fld_bottom (by assumption) ?_)
  | (with_reducible refine ⟨_, .bl, ?_⟩)
  | ((with_reducible refine ⟨?h, ?_⟩); case h => rfl)
  | (with_reducible refine ⟨_, _, rfl, ?_⟩)
  | (with_reducible refine ⟨_, _, _, rfl, ?_⟩)
  | walk_at "use_4"
  | (with_reducible refine setN_top (by assumption) ?_) | (with_reducible refine setN_bottom (by assumption) ?_)
  | ((with_reducible refine ⟨_, _, _, ?j, _, rfl, rfl, .head, ?h, .head, ?_⟩); case h => rfl)
  | fail)
local macro_rules | `(tactic| walk_at "st_4") => `(tactic| first
  | ((with_reducible show We _ _ _ _ _ _); walk_at "sWe_4")
  | ((with_reducible show W2 _ _ _ _ _ _ _ _); walk_at "sW2_4")
  | ((with_reducible show Wa _ _ _ _ _ _); walk_at "sWa_4")
  | ((with_reducible show Ws _ _ _ _ _ _); walk_at "sWs_4")
  | ((with_reducible show Wt _ _ _ _ _ _); walk_at "sWt_4")
  | ((with_reducible show Wc _ _ _ _ _ _ _); walk_at "sWc_4")
  | ((with_reducible show Wi _ _ _ _ _ _); walk_at "sWi_4")
  | ((with_reducible show Wg _ _ _ _ _ _ _); walk_at "sWg_4")
  | ((with_reducible show W1 _ _ _ _ _ _ _); walk_at "sW1_4")
  | ((with_reducible show Wgs _ _ _ _ _ _ _); walk_at "sWgs_4")
  | walk_at "sS_4" | walk_at "sX_4" | fail)
local macro_rules | `(tactic| walk_at "wif_4") => `(tactic| (with_reducible refine ws_if ?_))
local macro_rules | `(tactic| walk_at "br_4") => `(tactic| ((with_reducible refine ⟨fun hb => ?_, fun hb => ?_⟩) <;> (try simp only [decide_eq_true_eq, decide_eq_false_iff_not, Bool.not_eq_true', Bool.not_eq_false', Bool.and_eq_true, Bool.or_eq_true, reduceCtorEq, List.length_map, Bool.not_true, Bool.not_false, DL.isNon, not_true_eq_false, not_false_eq_true, Classical.not_not, List.all_cons, List.all_nil, id_eq, Bool.and_self, Bool.true_and, decide_true, decide_false] at hb)))
local macro_rules | `(tactic| walk_at "go_4") => `(tactic| repeat' (first | walk_at "st_4" | walk_at "wif_4" | walk_at "br_4" | fail))
theorem ok_same (T : Txt G C_Ratio C_Load C_Book C_OutOfBounds) (o_Book___len__ : Opr G 1 C_Book "__len__" 1 (S_blen C_Book C_Load C_Ratio)) (c__law_whole : Cal G 1 "_law_whole" 1 S_whole []) (c__law_load_told : Cal G 3 "_law_load_told" 2 (S_ltold C_Load C_Ratio) []) {f : Addr} {fd : FuncData} (F : L2.Fun G.K "_law_same" "_law_same" s__law_same f fd) (b : L2.Binds G.K fd ["told", "width", "rows"] []) : Fnx G 4 f 3 (S_same C_Book C_Load C_Ratio) [] := by
  refine fnx_of F sc__law_same rfl b .nil rfl (fun cdv A outer s H FF hr tk => ⟨_, (pss_cons (ps_if (PW.pt (pw_or (pt_not (pt_tr (pe_cb cs_isi rfl T.n_isinstance bt_isinstance (pa_cons (pe_var (i := 0) rfl (Or.inl rfl) nd_told.1 nd_told.2) (pa_cons (pe_glob (v := .ref C_Book) rfl T.mg_Book rfl) pa_nil))))) (pw_or1 (pt_not (pt_tr (pe_cl c__law_whole hr (by decide) tk rfl (pa_cons (pe_fld (pe_var (i := 0) rfl (Or.inl rfl) nd_told.1 nd_told.2) rfl) pa_nil))))))) (pss_one (ps_ret pe_bl)) pss_nil) (pss_cons (ps_if (PW.pt (pw_or (pt_cm (os_neF hr tk) (pe_fld (pe_var (i := 0) rfl (Or.inl rfl) nd_told.1 nd_told.2) rfl) (pe_var (i := 1) rfl (Or.inl rfl) nd_width.1 nd_width.2) (nomark _)) (pw_or1 (pt_not (pt_tr (pe_cb cs_isi rfl T.n_isinstance bt_isinstance (pa_cons (pe_fld (pe_var (i := 0) rfl (Or.inl rfl) nd_told.1 nd_told.2) rfl) (pa_cons (pe_bltn (v := .ty "tuple") rfl T.n_tuple bt_tuple rfl) pa_nil)))))))) (pss_one (ps_ret pe_bl)) pss_nil) (pss_cons (ps_if (PW.pt (pw_or (pt_cm (os_neF hr tk) (pe_cb (cs_lenO hr tk) rfl T.n_len bt_len (pa_cons (pe_fld (pe_var (i := 0) rfl (Or.inl rfl) nd_told.1 nd_told.2) rfl) pa_nil)) (pe_cb (cs_lenO hr tk) rfl T.n_len bt_len (pa_cons (pe_var (i := 2) rfl (Or.inl rfl) nd_rows.1 nd_rows.2) pa_nil)) (nomark _)) (pw_or1 (pt_cm (os_neF hr tk) (pe_cb (cs_lenO hr tk) rfl T.n_len bt_len (pa_cons (pe_var (i := 0) rfl (Or.inl rfl) nd_told.1 nd_told.2) pa_nil)) (pe_cb (cs_lenO hr tk) rfl T.n_len bt_len (pa_cons (pe_var (i := 2) rfl (Or.inl rfl) nd_rows.1 nd_rows.2) pa_nil)) (nomark _))))) (pss_one (ps_ret pe_bl)) pss_nil) (pss_cons (ps_for (passes_of rfl) rfl (pi_range1 rfl T.n_range (pa_cons (pe_cb (cs_lenO hr tk) rfl T.n_len bt_len (pa_cons (pe_var (i := 2) rfl (Or.inl rfl) nd_rows.1 nd_rows.2) pa_nil)) pa_nil)) (pg_name (i := 3) sc__law_same.nd rfl (Or.inl rfl)) (pss_one (ps_if (pt_not (pt_tr (pe_cl c__law_load_told hr (by decide) tk rfl (pa_cons (pe_ix ix_seq (pe_fld (pe_var (i := 0) rfl (Or.inl rfl) nd_told.1 nd_told.2) rfl) (pe_var (i := 3) rfl (Or.inl rfl) nd_k.1 nd_k.2) (fun _ _ => rfl)) (pa_cons (pe_ix ix_seq (pe_var (i := 2) rfl (Or.inl rfl) nd_rows.1 nd_rows.2) (pe_var (i := 3) rfl (Or.inl rfl) nd_k.1 nd_k.2) (fun _ _ => rfl)) pa_nil))))) (pss_one (ps_ret pe_bl)) pss_nil))) (pss_one (ps_ret pe_bl)))))), ?_⟩)
  rintro ds m K E - ⟨w, R, rfl, hl, ok, kk⟩
  show Ws _ _ _ [some (.ins C_Book bN [.int (w : Nat), .tup ((R.map rwL).map (ldD C_Load C_Ratio)), .dic (plc (R.map rwL))]), some (.int (w : Nat)), some (.lst (R.map rwD)), none] _ _
  try dsimp only [cx_G, cx_K]
  have BK := T.B_Book
  have BI := BK.ins
  have iB := T.is_Book_Book
  have l1 : (((R.map rwL).map (ldD C_Load C_Ratio)).length : Nat) = R.length := by rw [List.length_map, List.length_map]
  have l2 : ((R.map rwD).length : Nat) = R.length := by rw [List.length_map]
  walk_at "go_4"
  all_goals try contradiction
  refine wc_lenO o_Book___len__ (by decide) .fixed ⟨w, R.map rwL, rfl, R.length, by rw [List.length_map], by omega, ?_⟩
  rw [List.length_map]
  walk_at "go_4"
  all_goals try contradiction
  all_goals try (exfalso; omega)
  refine ws_range1 ?_
  walk_at "go_4"
  rw [l2]
  refine ⟨_, fun i r' m' => m' = m ∧ ∃ o, r' = [some (.ins C_Book bN [.int (w : Nat), .tup ((R.map rwL).map (ldD C_Load C_Ratio)), .dic (plc (R.map rwL))]), some (.int (w : Nat)), some (.lst (R.map rwD)), o], rfl, by omega, ⟨rfl, none, rfl⟩, ?_, ?_⟩
  · rintro i r' m' hi ⟨rfl, o, rfl⟩
    have h2 : i < R.length := by omega
    have ra : R[i]? = some R[i] := List.getElem?_eq_getElem (h := h2)
    have eo := ok _ (List.getElem_mem h2)
    generalize R[i] = e at *
    walk_at "go_4"
    refine w2_ixT ⟨atI_nat (v := ldD C_Load C_Ratio (rwL e)) (by rw [List.getElem?_map, List.getElem?_map, ra]; rfl), ?_⟩
    walk_at "go_4"
    refine w2_ixL ⟨atI_nat (v := rwD e) (by rw [List.getElem?_map, ra]; rfl), ?_⟩
    walk_at "go_4"
    refine use_ltold eo ?_
    walk_at "go_4"
    all_goals try contradiction
    exact ⟨_, rfl⟩
  · rintro r' m' ⟨rfl, o, rfl⟩
    walk_at "go_4"
    exact kk
end
end K22
set_option Elab.async false
set_option linter.all false
set_option maxRecDepth 100000
/-! ME22b: parallel rows. -/
namespace DL
open PySem PySem.Spec L2
open PyProof.Rows hiding St
def Par (l r : List Int) : Prop := ∀ i j, j < i → i < l.length → l[i]! * r[j]! = l[j]! * r[i]!
theorem gA_scale (k : Int) : ∀ (l : List Int) (d : Nat), gA (k.natAbs * d) (l.map fun x => k * x) = k.natAbs * gA d l
  | [], d => by rw [List.map_nil, gA_nil, gA_nil]
  | x :: l, d => by
    rw [List.map_cons, gA_cons, gA_cons, Int.natAbs_mul, Nat.gcd_mul_left]
    exact gA_scale k l _
theorem gcL_scale (k : Int) (l : List Int) : gcL (l.map fun x => k * x) = k.natAbs * gcL l := by
  have := gA_scale k l 0
  rw [Nat.mul_zero] at this
  exact this
/-- the first place that is not nought -/
def nzs (l : List Int) : List Nat := (List.range l.length).filter fun i => decide (l[i]! ≠ 0)
theorem lead_at : ∀ {l : List Int} {i : Nat}, i < l.length → l[i]! ≠ 0 → (∀ j, j < i → l[j]! = 0) → leadL l = l[i]!
  | [], i, h, _, _ => absurd h (Nat.not_lt_zero _)
  | x :: l, 0, _, h, _ => by
    have h' : x ≠ 0 := h
    show (if x = 0 then leadL l else x) = x
    rw [if_neg h']
  | x :: l, i + 1, hi, h, hz => by
    have hx : x = 0 := hz 0 (Nat.succ_pos i)
    show (if x = 0 then leadL l else x) = _
    rw [if_pos hx]
    have hi' : i < l.length := by simpa using hi
    have e : ∀ j, (x :: l)[j + 1]! = l[j]! := fun j => by simp [getElem!_def]
    rw [e] at h ⊢
    exact lead_at hi' h fun j hj => by rw [← e]; exact hz (j + 1) (by omega)
theorem nzs_nil {l : List Int} (h : nzs l = []) : ∀ x ∈ l, x = 0 := fun x hx => by
  obtain ⟨i, hi, rfl⟩ := List.mem_iff_getElem.mp hx
  have q := List.filter_eq_nil_iff.mp h i (List.mem_range.mpr hi)
  rw [getElem!_pos l i hi] at q
  simpa using q
theorem nzs_cons {l : List Int} {i : Nat} {t : List Nat} (h : nzs l = i :: t) : i < l.length ∧ l[i]! ≠ 0 ∧ ∀ j, j < i → l[j]! = 0 := by
  have q : (nzs l).head? = some i := by rw [h]; rfl
  unfold nzs at q
  rw [List.head?_filter] at q
  have z := List.find?_range_eq_some.mp q
  refine ⟨List.mem_range.mp z.2.1, of_decide_eq_true z.1, fun j hj => ?_⟩
  have := z.2.2 j hj
  simpa using this
theorem par_all {l r : List Int} (h : Par l r) {i j : Nat} (hi : i < l.length) (hj : j < l.length) : l[i]! * r[j]! = l[j]! * r[i]! := by
  rcases Nat.lt_trichotomy j i with q | q | q
  · exact h i j q hi
  · rw [q]
  · have := h j i q hj
    omega
theorem getB {l : List Int} {i : Nat} (h : i < l.length) : l[i]! ∈ l := by
  rw [getElem!_pos l i h]
  exact List.getElem_mem _
/-- the leads of parallel rows -/
theorem par_lead {l r : List Int} (hl : l.length = r.length) (h : Par l r) {i : Nat} (hi : i < l.length) (nz : l[i]! ≠ 0) (z : ∀ j, j < i → l[j]! = 0) (hr : conL r ≠ 0) :
    leadL l = l[i]! ∧ leadL r = r[i]! ∧ r[i]! ≠ 0 := by
  have rnz : r[i]! ≠ 0 := fun e => by
    apply hr
    rw [conL_zero]
    intro x hx
    obtain ⟨j, hj, rfl⟩ := List.mem_iff_getElem.mp hx
    have q := par_all h hi (show j < l.length by omega)
    rw [e, Int.mul_zero] at q
    rcases Int.mul_eq_zero.mp q with q | q
    · exact absurd q nz
    · rw [getElem!_pos r j hj] at q
      exact q
  refine ⟨lead_at hi nz z, lead_at (by omega) rnz fun j hj => ?_, rnz⟩
  have q := par_all h hi (show j < l.length by omega)
  rw [z j hj, Int.zero_mul] at q
  rcases Int.mul_eq_zero.mp q with q | q
  · exact absurd q nz
  · exact q
theorem par_gc {l r : List Int} (hl : l.length = r.length) (h : Par l r) {i : Nat} (hi : i < l.length) : (r[i]!).natAbs * gcL l = (l[i]!).natAbs * gcL r := by
  rw [← gcL_scale, ← gcL_scale]
  congr 1
  refine List.ext_getElem (by rw [List.length_map, List.length_map, hl]) fun j h1 h2 => ?_
  have hj : j < l.length := by rw [List.length_map] at h1; exact h1
  rw [List.getElem_map, List.getElem_map]
  have q := par_all h hi hj
  rw [getElem!_pos r j (by omega), getElem!_pos l j hj] at q
  rw [q, Int.mul_comm]
/-- the contents of parallel rows are as their leads -/
theorem par_con {l r : List Int} (hl : l.length = r.length) (h : Par l r) {i : Nat} (hi : i < l.length) (nz : l[i]! ≠ 0) (z : ∀ j, j < i → l[j]! = 0) (hr : conL r ≠ 0) :
    l[i]! * conL r = r[i]! * conL l := by
  obtain ⟨e1, e2, rnz⟩ := par_lead hl h hi nz z hr
  have g := par_gc hl h hi
  unfold conL
  rw [e1, e2]
  generalize l[i]! = a at *
  generalize r[i]! = b at *
  generalize gcL l = gl at *
  generalize gcL r = gr at *
  have g' : ((b.natAbs : Nat) : Int) * (gl : Int) = ((a.natAbs : Nat) : Int) * (gr : Int) := by exact_mod_cast g
  by_cases ha : a < 0 <;> by_cases hb : b < 0
  · rw [if_pos ha, if_pos hb]
    rw [show ((b.natAbs : Nat) : Int) = -b by omega, show ((a.natAbs : Nat) : Int) = -a by omega] at g'
    grind
  · rw [if_pos ha, if_neg hb]
    rw [show ((b.natAbs : Nat) : Int) = b by omega, show ((a.natAbs : Nat) : Int) = -a by omega] at g'
    grind
  · rw [if_neg ha, if_pos hb]
    rw [show ((b.natAbs : Nat) : Int) = -b by omega, show ((a.natAbs : Nat) : Int) = a by omega] at g'
    grind
  · rw [if_neg ha, if_neg hb]
    rw [show ((b.natAbs : Nat) : Int) = b by omega, show ((a.natAbs : Nat) : Int) = a by omega] at g'
    grind
theorem par_pr {l r : List Int} (hl : l.length = r.length) (h : Par l r) {i : Nat} (hi : i < l.length) (nz : l[i]! ≠ 0) (z : ∀ j, j < i → l[j]! = 0) (hr : conL r ≠ 0) : prL r = prL l := by
  have hc : conL l ≠ 0 := fun e => nz (conL_zero.mp e _ (getB hi))
  have pc := par_con hl h hi nz z hr
  unfold prL
  refine List.ext_getElem (by rw [List.length_map, List.length_map, hl]) fun j h1 h2 => ?_
  have hj : j < r.length := by rw [List.length_map] at h1; exact h1
  rw [List.getElem_map, List.getElem_map]
  have q := par_all h hi (show j < l.length by omega)
  have d1 := conL_dvd (List.getElem_mem hj)
  have d2 := conL_dvd (List.getElem_mem (show j < l.length by omega))
  rw [getElem!_pos r j hj, getElem!_pos l j (by omega)] at q
  obtain ⟨u, hu⟩ := d1
  obtain ⟨v, hv⟩ := d2
  rw [hu, hv] at q ⊢
  rw [Int.mul_ediv_cancel_left _ hr, Int.mul_ediv_cancel_left _ hc]
  have : (l[i]! * conL r) * u = (l[i]! * conL r) * v := by
    rw [show l[i]! * conL r * u = l[i]! * (conL r * u) by grind, q, pc]
    grind
  exact Int.eq_of_mul_eq_mul_left (Int.mul_ne_zero nz hr) this
theorem pr_par {l r : List Int} (hl : l.length = r.length) (h : prL r = prL l) : Par l r := fun i j hj hi => by
  have e1 := prL_mul (l := l)
  have e2 := prL_mul (l := r)
  rw [h] at e2
  have lp : (prL l).length = l.length := by unfold prL; rw [List.length_map]
  have g1 : ∀ k, k < l.length → l[k]! = conL l * (prL l)[k]! := fun k hk => by
    have q : ((prL l).map fun x => conL l * x)[k]! = l[k]! := by rw [e1]
    rw [getElem!_pos ((prL l).map _) k (by rw [List.length_map, lp]; exact hk), List.getElem_map] at q
    rw [← q, getElem!_pos (prL l) k (by omega)]
  have g2 : ∀ k, k < l.length → r[k]! = conL r * (prL l)[k]! := fun k hk => by
    have q : ((prL l).map fun x => conL r * x)[k]! = r[k]! := by rw [e2]
    rw [getElem!_pos ((prL l).map _) k (by rw [List.length_map, lp]; exact hk), List.getElem_map] at q
    rw [← q, getElem!_pos (prL l) k (by omega)]
  rw [g1 i hi, g1 j (by omega), g2 i hi, g2 j (by omega)]
  grind
/-! ### entries by place -/
theorem nd_ne {l : List (List Int)} (h : l.Nodup) {i j : Nat} (hi : i < l.length) (hj : j < l.length) (e : l[i] = l[j]) : i = j := by
  have p := List.pairwise_iff_getElem.mp h
  rcases Nat.lt_trichotomy i j with q | q | q
  · exact absurd e (p i j hi hj q)
  · exact q
  · exact absurd e.symm (p j i hj hi q)
theorem putE_set {st : List Ent} {k : Nat} (hk : k < st.length) (nd : (st.map (·.pr)).Nodup) {e2 : Ent} (h : e2.pr = st[k].pr) : putE st e2 = st.set k e2 := by
  unfold putE
  refine List.ext_getElem (by rw [List.length_map, List.length_set]) fun j h1 h2 => ?_
  have hj : j < st.length := by rw [List.length_map] at h1; exact h1
  rw [List.getElem_map, List.getElem_set]
  by_cases e : k = j
  · refine (if_pos ?_).trans (if_pos e).symm
    subst e
    exact h.symm
  · refine (if_neg fun z => ?_).trans (if_neg e).symm
    have z2 : st[k].pr = st[j].pr := h.symm.trans z.symm
    exact e (nd_ne nd (i := k) (j := j) (by rw [List.length_map]; exact hk) (by rw [List.length_map]; exact hj) (by rw [List.getElem_map, List.getElem_map]; exact z2))
theorem fndE_at {st : List Ent} {k : Nat} (hk : k < st.length) (nd : (st.map (·.pr)).Nodup) : fndE st st[k].pr = some st[k] := by
  cases hf : fndE st st[k].pr with
  | none => exact absurd (List.mem_map.mpr ⟨_, List.getElem_mem hk, rfl⟩) (fndE_none hf)
  | some e =>
    obtain ⟨he, hp⟩ := fndE_some hf
    obtain ⟨j, hj, rfl⟩ := List.mem_iff_getElem.mp he
    have := nd_ne nd (i := j) (j := k) (by rw [List.length_map]; exact hj) (by rw [List.length_map]; exact hk) (by rw [List.getElem_map, List.getElem_map]; exact hp)
    subst this
    rfl
end DL
set_option Elab.async false
set_option linter.all false
set_option maxRecDepth 100000
set_option maxHeartbeats 4000000
namespace K22
open PySem PySem.Spec L2 DL
open PyProof.Rows hiding St
open SX (S)
/-! one step, by the goal's head -/

/-! Ratio and Span by numbers: their promises used -/

/-! comprehensions, sums, lists of others -/
local macro_rules | `(tactic| walk_at "fld_1") => `(tactic| (with_reducible refine we_fldF ?_))
local macro_rules | `(tactic| walk_at "useWe_1") => `(tactic| first
  | ((with_reducible apply we_lcs); case gk => first | exact gk_name rfl | exact gk_tup (gks_cons (gk_name rfl) (gks_cons (gk_name rfl) gks_nil)))
  | (with_reducible refine we_slPre ?_) | (with_reducible refine we_slSuf ?_) | (with_reducible refine we_app ?_) | (with_reducible refine we_mt ?_) | (with_reducible refine we_grd ?_) | (with_reducible refine we_ratQ ?_) | (with_reducible refine we_ratQ1 ?_) | fail)
local macro_rules | `(tactic| walk_at "sWe_1") => `(tactic| first
  | ((with_reducible refine we_var (d := ?d) ?hv ?hk); case hv => rfl)
  | (with_reducible first
    | refine we_cint ?_ | refine we_2 ?_ | refine we_cl0 ?_ | refine we_tup ?_ | refine we_1 ?_ | refine we_c2 ?_ | refine we_cbl ?_ | refine we_cnon ?_ | refine we_cty ?_ | refine we_cref ?_
    | refine we_op ?_ | refine we_andV ?_ | refine we_orV ?_ | refine we_notV ?_ | refine we_3 ?_ | refine we_ifx ?_ | refine we_cstr ?_ | refine we_clH ?_)
  | walk_at "fld_1"
  | walk_at "useWe_1")
local macro_rules | `(tactic| walk_at "useW2_1") => `(tactic| first
  | (with_reducible refine w2_eqRN ?_) | (with_reducible refine w2_eqLN ?_) | (with_reducible refine w2_eqLli ?_) | (with_reducible refine w2_eqLi ?_)
  | (with_reducible refine w2_ixT ⟨ix_map0 ?_, ?_⟩) | (with_reducible refine w2_ixL ⟨ix_map0 ?_, ?_⟩) | (with_reducible refine w2_ixT ⟨ix_map ?_, ?_⟩) | (with_reducible refine w2_ixL ⟨ix_map ?_, ?_⟩)
  | (with_reducible refine w2_addO (by assumption) (by decide) .fixed .fixed ?_) | (with_reducible refine w2_subO (by assumption) (by decide) .fixed .fixed ?_) | (with_reducible refine w2_mulO (by assumption) (by decide) .fixed .fixed ?_) | (with_reducible refine w1_negO (by assumption) (by decide) .fixed ?_)
  | (with_reducible refine w2_catL .lst .lst ?_ ?_) | fail)
local macro_rules | `(tactic| walk_at "sW2_1") => `(tactic| first
  | (with_reducible first
    | refine w2_add ?_ | refine w2_sub ?_ | refine w2_mul ⟨?_, ?_⟩ | refine w2_fdiv ⟨?_, ?_⟩ | refine w2_mod ⟨?_, ?_⟩ | refine w2_pow ⟨?_, ?_⟩ | refine w2_eqI ?_ | refine w2_neI ?_ | refine w2_lt ?_ | refine w2_le ?_ | refine w2_gt ?_ | refine w2_ge ?_ | refine w2_eqFI ?_ | refine w2_neFI ?_)
  | ((with_reducible refine w2_ixT (d := ?d) ⟨?hv, ?hk⟩); case hv => rfl)
  | ((with_reducible refine w2_ixL (d := ?d) ⟨?hv, ?hk⟩); case hv => rfl)
  | ((with_reducible refine w2_ixM (d := ?d) .head ⟨?hv, ?hk⟩); case hv => rfl)
  | (with_reducible first
    | refine w2_eqIH ?_ | refine w2_neIH ?_ | refine w2_mulH ⟨?_, ?_⟩ | refine w2_addH ?_ | refine w2_subH ?_ | refine w2_isN ?_ | refine w2_notN ?_ | refine w2_isB ?_ | refine w2_notB ?_)
  | walk_at "useW2_1")
local macro_rules | `(tactic| walk_at "sWa_1") => `(tactic| with_reducible first | refine wa_nil ?_ | refine wa_cons ?_)
local macro_rules | `(tactic| walk_at "useWs_1") => `(tactic| first | (with_reducible refine ws_rs0 ?_) | (with_reducible refine ws_rs ?_) | fail)
local macro_rules | `(tactic| walk_at "sWs_1") => `(tactic| first
  | (with_reducible first | refine ws_seq ?_ | refine ws_ret ?_ | refine ws_asg ?_ | refine ws_next ?_ | refine ws_drop ?_ | refine ws_par ?_ | refine ws_par3 ?_ | refine ws_fldN ?_ | refine ws_brk ?_ | refine ws_cont ?_)
  | walk_at "useWs_1")
local macro_rules | `(tactic| walk_at "sWt_1") => `(tactic| with_reducible first | refine wt_test ?_ | refine wt_tr ?_ | refine wt_and ?_ | refine wt_or ?_ | refine wt_not ?_)
local macro_rules | `(tactic| walk_at "useWc_1") => `(tactic| first
  | (with_reducible refine wc_len (SeqM.len (by assumption)) ?_) | (with_reducible refine wc_sumG ?_) | (with_reducible refine wc_sumI ?_) | (with_reducible refine wc_tupleL .tup ?_) | (with_reducible refine wc_tupleL .lst ?_) | (with_reducible refine wc_listF .tup ?_) | (with_reducible refine wc_listF .lst ?_) | fail)
local macro_rules | `(tactic| walk_at "sWc_1") => `(tactic| first
  | (with_reducible first | refine wc_int ?_ | refine wc_abs ?_ | refine wc_min ?_ | refine wc_gcd ?_ | refine wc_isiT .int kit_ii ?_ | refine wc_isiT .int kit_ib ?_ | refine wc_len .lst ?_ | refine wc_len .tup ?_ | refine wc_strI ?_ ?_)
  | walk_at "useWc_1")
local macro_rules | `(tactic| walk_at "sWi_1") => `(tactic| with_reducible first | refine wi_seq ?_ | refine wi_rng1S ?_ | refine wi_rng2 ?_ | refine wi_zipM ?_)
local macro_rules | `(tactic| walk_at "sWg_1") => `(tactic| with_reducible first | refine wg_name ?_ | refine wg_subM ?_ | refine wg_tup rfl ?_)
local macro_rules | `(tactic| walk_at "sW1_1") => `(tactic| first | (with_reducible refine w1_neg ?_) | walk_at "useW2_1")
local macro_rules | `(tactic| walk_at "sWgs_1") => `(tactic| with_reducible first | refine wgs_cons ?_ | refine wgs_nil ?_)
local macro_rules | `(tactic| walk_at "sS_1") => `(tactic| first | (with_reducible refine SlA.mk ?_ ?_) | (with_reducible refine RngA.mk ?_ ?_) | (with_reducible refine LcS.mk ?_ (fun a ha q => ?_) ?_) | (with_reducible exact LcL.mk rfl rfl) | fail)
local macro_rules | `(tactic| walk_at "use_1") => `(tactic| fail)
local macro_rules | `(tactic| walk_at "sX_1") => `(tactic| first
  | (with_reducible refine ⟨_, rfl, ?_⟩)
  | (with_reducible refine fld_top (by assumption) ?_) | (with_reducible refine fld_bottom (by assumption) ?_)
  | (with_reducible refine ⟨_, .bl, ?_⟩)
  | ((with_reducible refine ⟨?h, ?_⟩); case h => rfl)
  | (with_reducible refine ⟨_, _, rfl, ?_⟩)
  | (with_reducible refine ⟨_, _, _, rfl, ?_⟩)
  | walk_at "use_1"
  | (with_reducible refine setN_top (by assumption) ?_) | (with_reducible refine setN_bottom (by assumption) ?_)
  | ((with_reducible refine ⟨_, _, _, ?j, _, rfl, rfl, .head, ?h, .head, ?_⟩); case h => rfl)
  | fail)
local macro_rules | `(tactic| walk_at "st_1") => `(tactic| first
  | ((with_reducible show We _ _ _ _ _ _); walk_at "sWe_1")
  | ((with_reducible show W2 _ _ _ _ _ _ _ _); walk_at "sW2_1")
  | ((with_reducible show Wa _ _ _ _ _ _); walk_at "sWa_1")
  | ((with_reducible show Ws _ _ _ _ _ _); walk_at "sWs_1")
  | ((with_reducible show Wt _ _ _ _ _ _); walk_at "sWt_1")
  | ((with_reducible show Wc _ _ _ _ _ _ _); walk_at "sWc_1")
  | ((with_reducible show Wi _ _ _ _ _ _); walk_at "sWi_1")
  | ((with_reducible show Wg _ _ _ _ _ _ _); walk_at "sWg_1")
  | ((with_reducible show W1 _ _ _ _ _ _ _); walk_at "sW1_1")
  | ((with_reducible show Wgs _ _ _ _ _ _ _); walk_at "sWgs_1")
  | walk_at "sS_1" | walk_at "sX_1" | fail)
local macro_rules | `(tactic| walk_at "br_1") => `(tactic| ((with_reducible refine ⟨fun hb => ?_, fun hb => ?_⟩) <;> (try simp only [decide_eq_true_eq, decide_eq_false_iff_not, Bool.not_eq_true', Bool.not_eq_false', Bool.and_eq_true, Bool.or_eq_true, reduceCtorEq, List.length_map, Bool.not_true, Bool.not_false, DL.isNon, not_true_eq_false, not_false_eq_true, Classical.not_not, List.all_cons, List.all_nil, id_eq, Bool.and_self, Bool.true_and, decide_true, decide_false] at hb)))
local macro_rules | `(tactic| walk_at "gn_1") => `(tactic| repeat' (first | walk_at "st_1" | walk_at "br_1" | fail))

section
variable {G : Gx} {C_Ratio C_Load C_Book C_OutOfBounds : Addr}
def S_par : SpecD := fun ds m K _ => ∃ l r : List Int, ds = [li l, li r] ∧ l.length = r.length ∧ l.length ≤ 12 ∧ (∀ x ∈ l, Bd 20 x) ∧ (∀ x ∈ r, Bd 20 x) ∧ ∀ b, (b = true ↔ Par l r) → K (.bl b) m
theorem use_par {l r : List Int} {m : Mu} {K : KT} {E : Ex → Mu → Prop} (h : l.length = r.length) (hn : l.length ≤ 12) (h1 : ∀ x ∈ l, Bd 20 x) (h2 : ∀ x ∈ r, Bd 20 x) (k : ∀ b, (b = true ↔ Par l r) → K (.bl b) m) : S_par [li l, li r] m K E := ⟨l, r, rfl, h, hn, h1, h2, k⟩
theorem ok_par (T : Txt G C_Ratio C_Load C_Book C_OutOfBounds) {f : Addr} {fd : FuncData} (F : L2.Fun G.K "_law_parallel" "_law_parallel" s__law_parallel f fd) (b : L2.Binds G.K fd ["left", "right"] []) : Fnx G 1 f 2 S_par [] := by
  refine fnx_of F sc__law_parallel rfl b .nil rfl (fun cdv A outer s H FF hr tk => ⟨_, (pss_cons (ps_for (passes_of rfl) rfl (pi_range1 rfl T.n_range (pa_cons (pe_cb cs_len rfl T.n_len bt_len (pa_cons (pe_var (i := 0) rfl (Or.inl rfl) nd_left.1 nd_left.2) pa_nil)) pa_nil)) (pg_name (i := 2) sc__law_parallel.nd rfl (Or.inl rfl)) (pss_one (ps_for (passes_of rfl) rfl (pi_range1 rfl T.n_range (pa_cons (pe_var (i := 2) rfl (Or.inl rfl) nd_i.1 nd_i.2) pa_nil)) (pg_name (i := 3) sc__law_parallel.nd rfl (Or.inl rfl)) (pss_one (ps_if (pt_cm (os_neF hr tk) (pe_bin (os_mul hr tk) (pe_ix ix_seq (pe_var (i := 0) rfl (Or.inl rfl) nd_left.1 nd_left.2) (pe_var (i := 2) rfl (Or.inl rfl) nd_i.1 nd_i.2) (fun _ _ => rfl)) (pe_ix ix_seq (pe_var (i := 1) rfl (Or.inl rfl) nd_right.1 nd_right.2) (pe_var (i := 3) rfl (Or.inl rfl) nd_j.1 nd_j.2) (fun _ _ => rfl))) (pe_bin (os_mul hr tk) (pe_ix ix_seq (pe_var (i := 0) rfl (Or.inl rfl) nd_left.1 nd_left.2) (pe_var (i := 3) rfl (Or.inl rfl) nd_j.1 nd_j.2) (fun _ _ => rfl)) (pe_ix ix_seq (pe_var (i := 1) rfl (Or.inl rfl) nd_right.1 nd_right.2) (pe_var (i := 2) rfl (Or.inl rfl) nd_i.1 nd_i.2) (fun _ _ => rfl))) (nomark _)) (pss_one (ps_ret pe_bl)) pss_nil))))) (pss_one (ps_ret pe_bl))), ?_⟩)
  rintro ds m K E - ⟨l, r, rfl, hl, hn, h1, h2, kk⟩
  show Ws _ _ _ [some (li l), some (li r), none, none] _ _
  try dsimp only [cx_G, cx_K]
  have eL : (((l.map D.int).length : Nat) : Int) = (l.length : Nat) := by rw [List.length_map]
  walk_at "gn_1"
  refine ws_range1 ?_
  walk_at "gn_1"
  rw [eL]
  refine ⟨_, fun i r' m' => m' = m ∧ (∀ i' j, j < i' → i' < i → l[i']! * r[j]! = l[j]! * r[i']!) ∧ ∃ o2 o3, r' = [some (li l), some (li r), o2, o3], rfl, by omega, ⟨rfl, fun _ _ _ h => absurd h (Nat.not_lt_zero _), none, none, rfl⟩, ?_, ?_⟩
  · rintro i r' m' hi ⟨rfl, hp, o2, o3, rfl⟩
    have hi2 : i < l.length := by omega
    refine ws_range1 ?_
    walk_at "gn_1"
    refine ⟨_, fun j r' m'' => m'' = m' ∧ (∀ j', j' < j → l[i]! * r[j']! = l[j']! * r[i]!) ∧ ∃ o3, r' = [some (li l), some (li r), some (.int (i : Nat)), o3], rfl, by omega, ⟨rfl, fun _ h => absurd h (Nat.not_lt_zero _), _, rfl⟩, ?_, ?_⟩
    · rintro j r' m'' hj ⟨rfl, hq, o3, rfl⟩
      have hj2 : j < l.length := by omega
      refine ws_if ?_
      walk_at "gn_1"
      all_goals try omega
      · exact (h1 _ (getB hi2)).mulX (h2 _ (getB (by omega))) (by decide)
      · exact (h1 _ (getB hj2)).mulX (h2 _ (getB (by omega))) (by decide)
      · refine kk false ⟨fun z => (nomatch z), fun z => ?_⟩
        exact absurd (z i j (by omega) hi2) ‹_›
      · refine ⟨fun j' hj' => ?_, _, rfl⟩
        by_cases e : j' < j
        · exact hq j' e
        · obtain rfl : j' = j := by omega
          first | assumption | (rename_i hh; exact Decidable.not_not.mp hh)
    · rintro r' m'' ⟨rfl, hq, o3, rfl⟩
      refine ⟨rfl, fun i' j h3 h4 => ?_, _, _, rfl⟩
      by_cases e : i' < i
      · exact hp i' j h3 e
      · obtain rfl : i' = i := by omega
        exact hq j (by omega)
  · rintro r' m' ⟨rfl, hp, o2, o3, rfl⟩
    rw [show ((l.length : Nat) : Int).toNat = l.length by omega] at hp
    walk_at "gn_1"
    exact kk true ⟨fun _ i j h3 h4 => hp i j h3 h4, fun _ => rfl⟩
end
end K22
set_option Elab.async false
set_option linter.all false
set_option maxRecDepth 100000
set_option maxHeartbeats 4000000
namespace K22
open PySem PySem.Spec L2 DL
open PyProof.Rows hiding St
open SX (S)
/-! one step, by the goal's head -/

/-! Ratio and Span by numbers: their promises used -/

/-! comprehensions, sums, lists of others -/
local macro_rules | `(tactic| walk_at "fld_1") => `(tactic| (with_reducible refine we_fldF ?_))
local macro_rules | `(tactic| walk_at "useWe_1") => `(tactic| first
  | ((with_reducible apply we_lcs); case gk => first | exact gk_name rfl | exact gk_tup (gks_cons (gk_name rfl) (gks_cons (gk_name rfl) gks_nil)))
  | (with_reducible refine we_slPre ?_) | (with_reducible refine we_slSuf ?_) | (with_reducible refine we_app ?_) | (with_reducible refine we_mt ?_) | (with_reducible refine we_grd ?_) | (with_reducible refine we_ratQ ?_) | (with_reducible refine we_ratQ1 ?_) | fail)
local macro_rules | `(tactic| walk_at "sWe_1") => `(tactic| first
  | ((with_reducible refine we_var (d := ?d) ?hv ?hk); case hv => rfl)
  | (with_reducible first
    | refine we_cint ?_ | refine we_2 ?_ | refine we_cl0 ?_ | refine we_tup ?_ | refine we_1 ?_ | refine we_c2 ?_ | refine we_cbl ?_ | refine we_cnon ?_ | refine we_cty ?_ | refine we_cref ?_
    | refine we_op ?_ | refine we_andV ?_ | refine we_orV ?_ | refine we_notV ?_ | refine we_3 ?_ | refine we_ifx ?_ | refine we_cstr ?_ | refine we_clH ?_)
  | walk_at "fld_1"
  | walk_at "useWe_1")
local macro_rules | `(tactic| walk_at "useW2_1") => `(tactic| first
  | (with_reducible refine w2_eqRN ?_) | (with_reducible refine w2_eqLN ?_) | (with_reducible refine w2_eqLli ?_) | (with_reducible refine w2_eqLi ?_)
  | (with_reducible refine w2_ixT ⟨ix_map0 ?_, ?_⟩) | (with_reducible refine w2_ixL ⟨ix_map0 ?_, ?_⟩) | (with_reducible refine w2_ixT ⟨ix_map ?_, ?_⟩) | (with_reducible refine w2_ixL ⟨ix_map ?_, ?_⟩)
  | (with_reducible refine w2_addO (by assumption) (by decide) .fixed .fixed ?_) | (with_reducible refine w2_subO (by assumption) (by decide) .fixed .fixed ?_) | (with_reducible refine w2_mulO (by assumption) (by decide) .fixed .fixed ?_) | (with_reducible refine w1_negO (by assumption) (by decide) .fixed ?_)
  | (with_reducible refine w2_catL .lst .lst ?_ ?_) | fail)
local macro_rules | `(tactic| walk_at "sW2_1") => `(tactic| first
  | (with_reducible first
    | refine w2_add ?_ | refine w2_sub ?_ | refine w2_mul ⟨?_, ?_⟩ | refine w2_fdiv ⟨?_, ?_⟩ | refine w2_mod ⟨?_, ?_⟩ | refine w2_pow ⟨?_, ?_⟩ | refine w2_eqI ?_ | refine w2_neI ?_ | refine w2_lt ?_ | refine w2_le ?_ | refine w2_gt ?_ | refine w2_ge ?_ | refine w2_eqFI ?_ | refine w2_neFI ?_)
  | ((with_reducible refine w2_ixT (d := ?d) ⟨?hv, ?hk⟩); case hv => rfl)
  | ((with_reducible refine w2_ixL (d := ?d) ⟨?hv, ?hk⟩); case hv => rfl)
  | ((with_reducible refine w2_ixM (d := ?d) .head ⟨?hv, ?hk⟩); case hv => rfl)
  | (with_reducible first
    | refine w2_eqIH ?_ | refine w2_neIH ?_ | refine w2_mulH ⟨?_, ?_⟩ | refine w2_addH ?_ | refine w2_subH ?_ | refine w2_isN ?_ | refine w2_notN ?_ | refine w2_isB ?_ | refine w2_notB ?_)
  | walk_at "useW2_1")
local macro_rules | `(tactic| walk_at "sWa_1") => `(tactic| with_reducible first | refine wa_nil ?_ | refine wa_cons ?_)
local macro_rules | `(tactic| walk_at "useWs_1") => `(tactic| first | (with_reducible refine ws_rs0 ?_) | (with_reducible refine ws_rs ?_) | fail)
local macro_rules | `(tactic| walk_at "sWs_1") => `(tactic| first
  | (with_reducible first | refine ws_seq ?_ | refine ws_ret ?_ | refine ws_asg ?_ | refine ws_next ?_ | refine ws_drop ?_ | refine ws_par ?_ | refine ws_par3 ?_ | refine ws_fldN ?_ | refine ws_brk ?_ | refine ws_cont ?_)
  | walk_at "useWs_1")
local macro_rules | `(tactic| walk_at "sWt_1") => `(tactic| with_reducible first | refine wt_test ?_ | refine wt_tr ?_ | refine wt_and ?_ | refine wt_or ?_ | refine wt_not ?_)
local macro_rules | `(tactic| walk_at "useWc_1") => `(tactic| first
  | (with_reducible refine wc_len (SeqM.len (by assumption)) ?_) | (with_reducible refine wc_sumG ?_) | (with_reducible refine wc_sumI ?_) | (with_reducible refine wc_tupleL .tup ?_) | (with_reducible refine wc_tupleL .lst ?_) | (with_reducible refine wc_listF .tup ?_) | (with_reducible refine wc_listF .lst ?_) | fail)
local macro_rules | `(tactic| walk_at "sWc_1") => `(tactic| first
  | (with_reducible first | refine wc_int ?_ | refine wc_abs ?_ | refine wc_min ?_ | refine wc_gcd ?_ | refine wc_isiT .int kit_ii ?_ | refine wc_isiT .int kit_ib ?_ | refine wc_len .lst ?_ | refine wc_len .tup ?_ | refine wc_strI ?_ ?_)
  | walk_at "useWc_1")
local macro_rules | `(tactic| walk_at "sWi_1") => `(tactic| with_reducible first | refine wi_seq ?_ | refine wi_rng1S ?_ | refine wi_rng2 ?_ | refine wi_zipM ?_)
local macro_rules | `(tactic| walk_at "sWg_1") => `(tactic| with_reducible first | refine wg_name ?_ | refine wg_subM ?_ | refine wg_tup rfl ?_)
local macro_rules | `(tactic| walk_at "sW1_1") => `(tactic| first | (with_reducible refine w1_neg ?_) | walk_at "useW2_1")
local macro_rules | `(tactic| walk_at "sWgs_1") => `(tactic| with_reducible first | refine wgs_cons ?_ | refine wgs_nil ?_)
local macro_rules | `(tactic| walk_at "sS_1") => `(tactic| first | (with_reducible refine SlA.mk ?_ ?_) | (with_reducible refine RngA.mk ?_ ?_) | (with_reducible refine LcS.mk ?_ (fun a ha q => ?_) ?_) | (with_reducible exact LcL.mk rfl rfl) | fail)
local macro_rules | `(tactic| walk_at "use_1") => `(tactic| fail)
local macro_rules | `(tactic| walk_at "sX_1") => `(tactic| first
  | (with_reducible refine ⟨_, rfl, ?_⟩)
  | (with_reducible refine fld_top (by assumption) ?_) | (with_reducible refine fld_bottom (by assumption) ?_)
  | (with_reducible refine ⟨_, .bl, ?_⟩)
  | ((with_reducible refine ⟨?h, ?_⟩); case h => rfl)
  | (with_reducible refine ⟨_, _, rfl, ?_⟩)
  | (with_reducible refine ⟨_, _, _, rfl, ?_⟩)
  | walk_at "use_1"
  | (with_reducible refine setN_top (by assumption) ?_) | (with_reducible refine setN_bottom (by assumption) ?_)
  | ((with_reducible refine ⟨_, _, _, ?j, _, rfl, rfl, .head, ?h, .head, ?_⟩); case h => rfl)
  | fail)
local macro_rules | `(tactic| walk_at "st_1") => `(tactic| first
  | ((with_reducible show We _ _ _ _ _ _); walk_at "sWe_1")
  | ((with_reducible show W2 _ _ _ _ _ _ _ _); walk_at "sW2_1")
  | ((with_reducible show Wa _ _ _ _ _ _); walk_at "sWa_1")
  | ((with_reducible show Ws _ _ _ _ _ _); walk_at "sWs_1")
  | ((with_reducible show Wt _ _ _ _ _ _); walk_at "sWt_1")
  | ((with_reducible show Wc _ _ _ _ _ _ _); walk_at "sWc_1")
  | ((with_reducible show Wi _ _ _ _ _ _); walk_at "sWi_1")
  | ((with_reducible show Wg _ _ _ _ _ _ _); walk_at "sWg_1")
  | ((with_reducible show W1 _ _ _ _ _ _ _); walk_at "sW1_1")
  | ((with_reducible show Wgs _ _ _ _ _ _ _); walk_at "sWgs_1")
  | walk_at "sS_1" | walk_at "sX_1" | fail)
local macro_rules | `(tactic| walk_at "br_1") => `(tactic| ((with_reducible refine ⟨fun hb => ?_, fun hb => ?_⟩) <;> (try simp only [decide_eq_true_eq, decide_eq_false_iff_not, Bool.not_eq_true', Bool.not_eq_false', Bool.and_eq_true, Bool.or_eq_true, reduceCtorEq, List.length_map, Bool.not_true, Bool.not_false, DL.isNon, not_true_eq_false, not_false_eq_true, Classical.not_not, List.all_cons, List.all_nil, id_eq, Bool.and_self, Bool.true_and, decide_true, decide_false] at hb)))
local macro_rules | `(tactic| walk_at "gn_1") => `(tactic| repeat' (first | walk_at "st_1" | walk_at "br_1" | fail))

/-- what the law keeps -/
structure KpOk (w i : Nat) (kp : List Rw) (st : List Ent) : Prop where
  e : kp.map rwL = st.map (·.ld)
  b0 : ∀ a ∈ kp, a.b ≠ 0
  t : ∀ a ∈ kp, Bd (20 + 49 * i) a.t
  b : ∀ a ∈ kp, Bd (20 + 49 * i) a.b
theorem KpOk.len {w i : Nat} {kp : List Rw} {st : List Ent} (h : KpOk w i kp st) : kp.length = st.length := by
  have := congrArg List.length h.e
  rw [List.length_map, List.length_map] at this
  exact this
theorem KpOk.at {w i : Nat} {kp : List Rw} {st : List Ent} (h : KpOk w i kp st) {k : Nat} (hk : k < kp.length) : rwL kp[k] = (st[k]'(by rw [← h.len]; exact hk)).ld := by
  have e := h.e
  have q : (kp.map rwL)[k]? = (st.map (·.ld))[k]? := by rw [e]
  rw [List.getElem?_map, List.getElem?_map, List.getElem?_eq_getElem (h := hk), List.getElem?_eq_getElem (h := by rw [← h.len]; exact hk)] at q
  injection q
theorem KpOk.mono {w i j : Nat} {kp : List Rw} {st : List Ent} (h : KpOk w i kp st) (l : i ≤ j) : KpOk w j kp st := ⟨h.e, h.b0, fun a ha => (h.t a ha).mono (by omega), fun a ha => (h.b a ha).mono (by omega)⟩
/-- a row of noughts -/
theorem kp_zero {w i : Nat} {kp : List Rw} {st : List Ent} {a : Rw} (h : KpOk w i kp st) (z : nzs a.nums = []) : KpOk w (i + 1) kp (stepC st (rwL a)) := by
  unfold stepC
  rw [if_pos (show conL (rwL a).nums = 0 from conL_zero.mpr (nzs_nil z))]
  exact h.mono (by omega)
/-- a new row -/
theorem kp_new {w i : Nat} {kp : List Rw} {st : List Ent} {ls : List Ld} {a : Rw} (h : KpOk w i kp st) (so : StOk w ls st) (ao : RowOk w a) (z : nzs a.nums ≠ []) (hp : ∀ k (hk : k < kp.length), ¬ Par a.nums kp[k].nums) : KpOk w (i + 1) (kp ++ [a]) (stepC st (rwL a)) := by
  have hc : conL a.nums ≠ 0 := fun e => z (by
    unfold nzs
    refine List.filter_eq_nil_iff.mpr fun j hj => ?_
    have := conL_zero.mp e _ (getB (List.mem_range.mp hj))
    simp [this])
  have hf : fndE st (prL a.nums) = none := by
    cases hf : fndE st (prL a.nums) with
    | none => rfl
    | some e =>
      exfalso
      obtain ⟨he, hpr⟩ := fndE_some hf
      obtain ⟨k, hk, rfl⟩ := List.mem_iff_getElem.mp he
      have hk2 : k < kp.length := by rw [h.len]; exact hk
      have e1 := h.at hk2
      have eo := so.ent _ he
      have e2 : kp[k].nums = st[k].ld.nums := congrArg (·.nums) e1
      have ww := eo.w
      have aw := ao.wid
      refine hp k hk2 (pr_par (by rw [e2]; omega) ?_)
      rw [e2, eo.p, hpr]
  unfold stepC
  rw [if_neg (show ¬ conL (rwL a).nums = 0 from hc), show fndE st (prL (rwL a).nums) = none from hf]
  have t0 := ao.t0
  have t1 := ao.t1
  have b0 := ao.b0
  have b1 := ao.b1
  refine ⟨by rw [List.map_append, h.e, List.map_append]; rfl, fun x hx => ?_, fun x hx => ?_, fun x hx => ?_⟩
  all_goals rcases List.mem_append.mp hx with q | q
  · exact h.b0 x q
  · rw [List.mem_singleton.mp q]; omega
  · exact (h.t x q).mono (by omega)
  · rw [List.mem_singleton.mp q]; exact (show Bd 20 a.t by unfold Bd; omega).mono (by omega)
  · exact (h.b x q).mono (by omega)
  · rw [List.mem_singleton.mp q]; exact (show Bd 20 a.b by unfold Bd; omega).mono (by omega)
/-- a row put to a kept one -/
def nrw (o a : Rw) (i : Nat) : Rw := ⟨o.lab, o.t * (a.b * o.nums[i]! * o.nums[i]!) + a.t * a.nums[i]! * a.nums[i]! * o.b, o.b * (a.b * o.nums[i]! * o.nums[i]!), o.nums⟩
theorem kp_put {w i : Nat} {kp : List Rw} {st : List Ent} {ls : List Ld} {a : Rw} {i0 : Nat} {t : List Nat} {k : Nat} (h : KpOk w i kp st) (so : StOk w ls st) (ao : RowOk w a) (z : nzs a.nums = i0 :: t) (hk : k < kp.length) (hp : Par a.nums kp[k].nums) :
    KpOk w (i + 1) (kp.set k (nrw kp[k] a i0)) (stepC st (rwL a)) ∧ Bd 14 a.nums[i0]! ∧ Bd 14 (kp[k].nums)[i0]! := by
  obtain ⟨hi0, nz, zz⟩ := nzs_cons z
  have hc : conL a.nums ≠ 0 := fun e => nz (conL_zero.mp e _ (getB hi0))
  have hks : k < st.length := by rw [← h.len]; exact hk
  have e1 := h.at hk
  have eo := so.ent _ (List.getElem_mem hks)
  have e2 : kp[k].nums = st[k].ld.nums := congrArg (·.nums) e1
  have e3 : kp[k].lab = st[k].ld.lab := congrArg (·.lab) e1
  have e4 : dv kp[k].t kp[k].b = st[k].ld.wt := congrArg (·.wt) e1
  have ww := eo.w
  have aw := ao.wid
  have hl : a.nums.length = kp[k].nums.length := by rw [e2]; omega
  have rc : conL kp[k].nums ≠ 0 := by rw [e2, eo.c]; exact eo.nz
  have hpr := par_pr hl hp hi0 nz zz rc
  have pc := par_con hl hp hi0 nz zz rc
  obtain ⟨_, _, bnz⟩ := par_lead hl hp hi0 nz zz rc
  have nb1 := ao.nb _ (getB hi0)
  have nb2 := eo.ok.nb _ (show (kp[k].nums)[i0]! ∈ st[k].ld.nums by rw [← e2]; exact getB (by omega))
  have q1 : Bd 14 a.nums[i0]! := by unfold Bd; omega
  have q2 : Bd 14 (kp[k].nums)[i0]! := by unfold Bd; omega
  refine ⟨?_, q1, q2⟩
  have ep : st[k].pr = prL a.nums := by rw [← hpr, e2, eo.p]
  have hf : fndE st (prL a.nums) = some st[k] := by
    rw [← ep]
    exact fndE_at hks so.nd
  have es : stepC st (rwL a) = st.set k (mrg st[k] (rwL a)) := by
    unfold stepC
    rw [if_neg (show ¬ conL (rwL a).nums = 0 from hc), show fndE st (prL (rwL a).nums) = some st[k] from hf]
    exact putE_set hks so.nd rfl
  have m0 := h.b0 _ (List.getElem_mem hk)
  have t0 := ao.t0
  have t1 := ao.t1
  have b0 := ao.b0
  have b1 := ao.b1
  have st1 := h.t _ (List.getElem_mem hk)
  have sb1 := h.b _ (List.getElem_mem hk)
  rw [e2, eo.c] at pc
  rw [e2] at bnz q2
  have rest : ∀ x ∈ kp.set k (nrw kp[k] a i0), x ∈ kp ∨ x = nrw kp[k] a i0 := fun x hx => List.mem_or_eq_of_mem_set hx
  generalize hT : a.nums[i0]! = tp at *
  have hB : (kp[k].nums)[i0]! = (st[k].ld.nums)[i0]! := by rw [e2]
  generalize hB2 : (st[k].ld.nums)[i0]! = bt at *
  have ewt : rwL (nrw kp[k] a i0) = (mrg st[k] (rwL a)).ld := by
    unfold nrw rwL mrg
    simp only [hT, hB]
    rw [e3, e2]
    congr 1
    have f1 : a.b * bt * bt ≠ 0 := Int.mul_ne_zero (Int.mul_ne_zero (by omega) bnz) bnz
    have f2 : dv (conL a.nums) st[k].c = dv tp bt := (dv_eq eo.nz bnz).mpr (by rw [pc]; exact Int.mul_comm _ _)
    have f3 : dv (a.t * tp * tp) (a.b * bt * bt) = dv a.t a.b * dv tp bt ^ 2 := by
      have e5 : dv tp bt ^ 2 = dv tp bt * dv tp bt := by grind
      rw [e5, mul_dv, mul_dv, Int.mul_assoc, Int.mul_assoc]
    rw [← add_dv m0 f1, f3, f2, e4]
  have sd : Bd 48 (a.b * bt * bt) := (((show Bd 20 a.b by unfold Bd; omega).mul q2).mul q2)
  have sc : Bd 48 (a.t * tp * tp) := (((show Bd 20 a.t by unfold Bd; omega).mul q1).mul q1)
  rw [es]
  refine ⟨?_, fun x hx => ?_, fun x hx => ?_, fun x hx => ?_⟩
  · rw [List.map_set, List.map_set, h.e, ewt]
  all_goals rcases rest x hx with q | q
  · exact h.b0 x q
  · rw [q]
    show kp[k].b * (a.b * (kp[k].nums)[i0]! * (kp[k].nums)[i0]!) ≠ 0
    rw [hB]
    exact Int.mul_ne_zero m0 (Int.mul_ne_zero (Int.mul_ne_zero (by omega) bnz) bnz)
  · exact (h.t x q).mono (by omega)
  · rw [q]
    show Bd _ (kp[k].t * (a.b * (kp[k].nums)[i0]! * (kp[k].nums)[i0]!) + a.t * a.nums[i0]! * a.nums[i0]! * kp[k].b)
    rw [hB, hT]
    exact (((st1.mul sd).mono (show _ ≤ 68 + 49 * i by omega)).add ((sc.mul sb1).mono (show _ ≤ 68 + 49 * i by omega))).mono (by omega)
  · exact (h.b x q).mono (by omega)
  · rw [q]
    show Bd _ (kp[k].b * (a.b * (kp[k].nums)[i0]! * (kp[k].nums)[i0]!))
    rw [hB]
    exact (sb1.mul sd).mono (by omega)
section
variable {G : Gx} {C_Ratio C_Load C_Book C_OutOfBounds : Addr}
def S_ocond : SpecD := fun ds m K _ => ∃ (w : Nat) (R : List Rw), ds = [.lst (R.map rwD)] ∧ 1 ≤ w ∧ w ≤ 12 ∧ RwsOk w R ∧ ∀ E : List Rw, E.map rwL = DL.cond (R.map rwL) → (∀ e ∈ E, EOk e) → K (.lst (E.map rwD)) m
theorem use_ocond {w : Nat} {R : List Rw} {m : Mu} {K : KT} {E : Ex → Mu → Prop} (w1 : 1 ≤ w) (w2 : w ≤ 12) (h : RwsOk w R) (k : ∀ E : List Rw, E.map rwL = DL.cond (R.map rwL) → (∀ e ∈ E, EOk e) → K (.lst (E.map rwD)) m) : S_ocond [.lst (R.map rwD)] m K E := ⟨w, R, rfl, w1, w2, h, k⟩
theorem ok_ocond (T : Txt G C_Ratio C_Load C_Book C_OutOfBounds) (c__law_parallel : Cal G 1 "_law_parallel" 2 S_par []) {f : Addr} {fd : FuncData} (F : L2.Fun G.K "_law_own_condensed" "_law_own_condensed" s__law_own_condensed f fd) (b : L2.Binds G.K fd ["rows"] []) : Fnx G 2 f 1 S_ocond [] := by
  refine fnx_of F sc__law_own_condensed rfl b .nil rfl (fun cdv A outer s H FF hr tk => ⟨_, (pss_cons (ps_set (i := 1) sc__law_own_condensed.nd rfl (Or.inl rfl) (pe_lst pa_nil)) (pss_cons (ps_for (passes_of rfl) rfl (pi_seq (pe_var (i := 0) rfl (Or.inl rfl) nd_rows.1 nd_rows.2)) (pg_name (i := 2) sc__law_own_condensed.nd rfl (Or.inl rfl)) (pss_cons (ps_set (i := 3) sc__law_own_condensed.nd rfl (Or.inr rfl) (pe_ix ix_seq (pe_var (i := 2) rfl (Or.inl rfl) nd_row.1 nd_row.2) pe_int (fun _ _ => rfl))) (pss_cons (ps_setLc (i := 4) (own := [("i", 5)]) (g := (gName 5)) (tt := _) rfl sc__law_own_condensed.nd rfl rfl (sw_true rfl rfl rfl (by decide +kernel)) (pi_range1 rfl T.n_range (pa_cons (pe_cb cs_len rfl T.n_len bt_len (pa_cons (pe_var (i := 3) rfl (Or.inr (Or.inl rfl)) nd_line.1 nd_line.2) pa_nil)) pa_nil)) (blkOk_by (N := N__law_own_condensed) (sc := (defScope s__law_own_condensed)) (by decide +kernel)) (fun _ _ _ _ _ => (pg_name (i := 5) sc__law_own_condensed.nd rfl (Or.inl rfl))) (fun _ _ _ _ _ => (pts_one (pt_cm (o := oNeF G _ wNo) (os_neF (by exact hr) takes0N) (pe_ix (r := rIx G.K) ix_seq (pe_var (i := 3) rfl (Or.inr (Or.inl rfl)) nd_line.1 nd_line.2) (pe_var (i := 5) rfl (Or.inl rfl) nd_i.1 nd_i.2) (fun _ _ => rfl)) pe_int (nomark _)))) (fun _ _ _ _ _ => (pe_var (i := 5) rfl (Or.inl rfl) nd_i.1 nd_i.2))) (pss_cons (ps_set (i := 6) sc__law_own_condensed.nd rfl (Or.inl rfl) (pe_lst pa_nil)) (pss_cons (ps_for (passes_of rfl) rfl (pi_range1 rfl T.n_range (pa_cons (pe_cb cs_len rfl T.n_len bt_len (pa_cons (pe_var (i := 1) rfl (Or.inl rfl) nd_kept.1 nd_kept.2) pa_nil)) pa_nil)) (pg_name (i := 7) sc__law_own_condensed.nd rfl (Or.inl rfl)) (pss_one (ps_if (pt_tr (pe_cl c__law_parallel hr (by decide) tk rfl (pa_cons (pe_var (i := 3) rfl (Or.inr (Or.inl rfl)) nd_line.1 nd_line.2) (pa_cons (pe_ix ix_seq (pe_ix ix_seq (pe_var (i := 1) rfl (Or.inl rfl) nd_kept.1 nd_kept.2) (pe_var (i := 7) rfl (Or.inl rfl) nd_k.1 nd_k.2) (fun _ _ => rfl)) pe_int (fun _ _ => rfl)) pa_nil)))) (pss_one (ps_expr (pe_bm PySem.F.plainAttrs_list PySem.F.slot_list_append PySem.F.type_list_append mt_append (pe_var (i := 6) rfl (Or.inl rfl) nd_others.1 nd_others.2) (pa_cons (pe_var (i := 7) rfl (Or.inl rfl) nd_k.1 nd_k.2) pa_nil)))) pss_nil))) (pss_one (ps_if (PW.pt (pw_and (pt_cm os_gt (pe_cb cs_len rfl T.n_len bt_len (pa_cons (pe_var (i := 4) rfl (Or.inl rfl) nd_places.1 nd_places.2) pa_nil)) pe_int (nomark _)) (pw_and1 (pt_cm (os_eqF hr tk) (pe_cb cs_len rfl T.n_len bt_len (pa_cons (pe_var (i := 6) rfl (Or.inl rfl) nd_others.1 nd_others.2) pa_nil)) pe_int (nomark _))))) (pss_one (ps_expr (pe_bm PySem.F.plainAttrs_list PySem.F.slot_list_append PySem.F.type_list_append mt_append (pe_var (i := 1) rfl (Or.inl rfl) nd_kept.1 nd_kept.2) (pa_cons (pe_var (i := 2) rfl (Or.inl rfl) nd_row.1 nd_row.2) pa_nil)))) (pss_one (ps_if (pt_cm os_gt (pe_cb cs_len rfl T.n_len bt_len (pa_cons (pe_var (i := 4) rfl (Or.inl rfl) nd_places.1 nd_places.2) pa_nil)) pe_int (nomark _)) (pss_cons (ps_set (i := 8) sc__law_own_condensed.nd rfl (Or.inl rfl) (pe_ix ix_seq (pe_var (i := 1) rfl (Or.inl rfl) nd_kept.1 nd_kept.2) (pe_ix ix_seq (pe_var (i := 6) rfl (Or.inl rfl) nd_others.1 nd_others.2) pe_int (fun _ _ => rfl)) (fun _ _ => rfl))) (pss_cons (ps_set (i := 9) sc__law_own_condensed.nd rfl (Or.inl rfl) (pe_ix ix_seq (pe_var (i := 3) rfl (Or.inr (Or.inl rfl)) nd_line.1 nd_line.2) (pe_ix ix_seq (pe_var (i := 4) rfl (Or.inl rfl) nd_places.1 nd_places.2) pe_int (fun _ _ => rfl)) (fun _ _ => rfl))) (pss_cons (ps_set (i := 10) sc__law_own_condensed.nd rfl (Or.inl rfl) (pe_ix ix_seq (pe_ix ix_seq (pe_var (i := 8) rfl (Or.inl rfl) nd_old.1 nd_old.2) pe_int (fun _ _ => rfl)) (pe_ix ix_seq (pe_var (i := 4) rfl (Or.inl rfl) nd_places.1 nd_places.2) pe_int (fun _ _ => rfl)) (fun _ _ => rfl))) (pss_cons (ps_set (i := 11) sc__law_own_condensed.nd rfl (Or.inl rfl) (pe_bin (os_mul hr tk) (pe_bin (os_mul hr tk) (pe_ix ix_seq (pe_ix ix_seq (pe_var (i := 2) rfl (Or.inl rfl) nd_row.1 nd_row.2) pe_int (fun _ _ => rfl)) pe_int (fun _ _ => rfl)) (pe_var (i := 9) rfl (Or.inl rfl) nd_top.1 nd_top.2)) (pe_var (i := 9) rfl (Or.inl rfl) nd_top.1 nd_top.2))) (pss_cons (ps_set (i := 12) sc__law_own_condensed.nd rfl (Or.inl rfl) (pe_bin (os_mul hr tk) (pe_bin (os_mul hr tk) (pe_ix ix_seq (pe_ix ix_seq (pe_var (i := 2) rfl (Or.inl rfl) nd_row.1 nd_row.2) pe_int (fun _ _ => rfl)) pe_int (fun _ _ => rfl)) (pe_var (i := 10) rfl (Or.inl rfl) nd_bottom.1 nd_bottom.2)) (pe_var (i := 10) rfl (Or.inl rfl) nd_bottom.1 nd_bottom.2))) (pss_cons (ps_set (i := 13) sc__law_own_condensed.nd rfl (Or.inl rfl) (pe_tup (pa_cons (pe_bin (os_add hr tk) (pe_bin (os_mul hr tk) (pe_ix ix_seq (pe_ix ix_seq (pe_var (i := 8) rfl (Or.inl rfl) nd_old.1 nd_old.2) pe_int (fun _ _ => rfl)) pe_int (fun _ _ => rfl)) (pe_var (i := 12) rfl (Or.inl rfl) nd_b.1 nd_b.2)) (pe_bin (os_mul hr tk) (pe_var (i := 11) rfl (Or.inl rfl) nd_a.1 nd_a.2) (pe_ix ix_seq (pe_ix ix_seq (pe_var (i := 8) rfl (Or.inl rfl) nd_old.1 nd_old.2) pe_int (fun _ _ => rfl)) pe_int (fun _ _ => rfl)))) (pa_cons (pe_bin (os_mul hr tk) (pe_ix ix_seq (pe_ix ix_seq (pe_var (i := 8) rfl (Or.inl rfl) nd_old.1 nd_old.2) pe_int (fun _ _ => rfl)) pe_int (fun _ _ => rfl)) (pe_var (i := 12) rfl (Or.inl rfl) nd_b.1 nd_b.2)) pa_nil)))) (pss_one (ps_asg (pe_tup (pa_cons (pe_ix ix_seq (pe_var (i := 8) rfl (Or.inl rfl) nd_old.1 nd_old.2) pe_int (fun _ _ => rfl)) (pa_cons (pe_var (i := 13) rfl (Or.inl rfl) nd_pair.1 nd_pair.2) (pa_cons (pe_ix ix_seq (pe_var (i := 8) rfl (Or.inl rfl) nd_old.1 nd_old.2) pe_int (fun _ _ => rfl)) pa_nil)))) (pg_sub (pe_var (i := 1) rfl (Or.inl rfl) nd_kept.1 nd_kept.2) (pe_ix ix_seq (pe_var (i := 6) rfl (Or.inl rfl) nd_others.1 nd_others.2) pe_int (fun _ _ => rfl)) set_list))))))))) pss_nil))))))))) (pss_one (ps_ret (pe_var (i := 1) rfl (Or.inl rfl) nd_kept.1 nd_kept.2))))), ?_⟩)
  rintro ds m K E - ⟨w, R, rfl, w1, w2, ok, kk⟩
  show Ws _ _ _ [some (.lst (R.map rwD)), none, none, none, none, none, none, none, none, none, none, none, none, none] _ _
  try dsimp only [cx_G, cx_K]
  have bk := rws_bk ok w1 w2
  refine ws_seq (ws_asg (we_lstM (wa_nil ⟨rfl, fun q hf => wg_name ?_⟩)))
  walk_at "gn_1"
  have lds : ∀ b ∈ R.map rwL, LdOk b ∧ b.nums.length = w := fun b hb => ⟨bk.ok b hb, bk.wid b hb⟩
  let RR : Option D → Option D → Option D → Option D → Option D → Option D → Option D → Option D → Option D → Option D → Option D → Rho := fun o2 o3 o4 o6 o7 o8 o9 o10 o11 o12 o13 => [some (.lst (R.map rwD)), some (.ref q), o2, o3, o4, none, o6, o7, o8, o9, o10, o11, o12, o13]
  refine ws_seqI (we_var (i := 0) (d := .lst (R.map rwD)) rfl ⟨_, fun i r' m' => ∃ kp o2 o3 o4 o6 o7 o8 o9 o10 o11 o12 o13, m' = (q, .lst (kp.map rwD)) :: m ∧ KpOk w i kp (condS ((R.take i).map rwL)) ∧ r' = RR o2 o3 o4 o6 o7 o8 o9 o10 o11 o12 o13, .lst, ?_, ?_, ?_⟩)
  · exact ⟨[], none, none, none, none, none, none, none, none, none, none, none, rfl, ⟨by rw [List.take_zero]; rfl, fun _ h => (nomatch h), fun _ h => (nomatch h), fun _ h => (nomatch h)⟩, rfl⟩
  · rintro i x r' m' hx ⟨kp, o2, o3, o4, o6, o7, o8, o9, o10, o11, o12, o13, rfl, ko, rfl⟩
    rw [List.getElem?_map] at hx
    obtain ⟨a, ha, rfl⟩ := Option.map_eq_some_iff.mp hx
    have ao := ok.ok a (List.mem_of_getElem? ha)
    have hi : i < R.length := (List.getElem?_eq_some_iff.mp ha).1
    have rl := ok.len
    have so : StOk w ((R.take i).map rwL) (condS ((R.take i).map rwL)) := condS_ok fun b hb => lds b (by
      rw [List.map_take] at hb
      exact List.mem_of_mem_take hb)
    have es : condS ((R.take (i + 1)).map rwL) = stepC (condS ((R.take i).map rwL)) (rwL a) := by
      rw [take_succ' ha, List.map_append, List.map_cons, List.map_nil, condS_snoc]
    have kl : kp.length ≤ 13 := by
      have h1 := so.lab.length_le
      rw [List.length_map, List.length_map, List.length_map, List.length_take] at h1
      rw [ko.len]
      omega
    have fin : ∀ kp' : List Rw, KpOk w (i + 1) kp' (stepC (condS ((R.take i).map rwL)) (rwL a)) → KpOk w (i + 1) kp' (condS ((R.take (i + 1)).map rwL)) := fun kp' h => by rw [es]; exact h
    have kw : ∀ k (hk : k < kp.length), kp[k].nums.length = w ∧ ∀ x ∈ kp[k].nums, -9999 ≤ x ∧ x ≤ 9999 := fun k hk => by
      have e := congrArg (·.nums) (ko.at hk)
      have eo := so.ent _ (List.getElem_mem (show k < (condS ((R.take i).map rwL)).length by rw [← ko.len]; exact hk))
      have e' : kp[k].nums = _ := e
      rw [e']
      exact ⟨eo.w, eo.ok.nb⟩
    generalize condS ((R.take i).map rwL) = T0 at ko so fin es
    have aw := ao.wid
    have ab : ∀ x ∈ a.nums, Bd 20 x := fun x hx => by
      have := ao.nb x hx
      unfold Bd
      omega
    walk_at "gn_1"
    refine we_lcp (α := Nat) (fun j => .int (j : Nat)) (fun j => decide (a.nums[j]! ≠ 0)) (fun j => .int (j : Nat)) (gk_name rfl) (wi_rng1S (wa_cons (we_c2 (wa_cons (we_var (i := 3) (d := li a.nums) rfl (wa_nil (wc_len .lst (wa_nil ⟨_, rfl, RngA.mk (rngB (by rw [List.length_map]; omega)) ⟨List.range a.nums.length, by rw [List.length_map, show ((a.nums.length : Nat) : Int).toNat = a.nums.length by omega], LcS.mk (Nat.ble_eq_true_of_le (by rw [List.length_range]; omega)) (fun j hj qq => wg_name ?_) ?_⟩⟩))))))))
    · have hj2 := List.mem_range.mp hj
      walk_at "gn_1"
      · exact hj2
      · exact ⟨by simp, fun _ => by walk_at "gn_1", fun _ => rfl⟩
    show Wg _ _ _ (.lst ((nzs a.nums).map fun j => D.int (j : Nat))) _ _ _
    refine wg_name ?_
    refine ws_seq (ws_asg (we_lstM (wa_nil ⟨rfl, fun o ho => wg_name ?_⟩)))
    walk_at "gn_1"
    refine ws_range1 ?_
    walk_at "gn_1"
    refine wc_len (.mutb (.tail .head)) ?_
    walk_at "gn_1"
    let RS : Option D → Option D → Rho := fun o6 o7 => RR (some (rwD a)) (some (li a.nums)) (some (.lst ((nzs a.nums).map fun j => D.int (j : Nat)))) o6 o7 o8 o9 o10 o11 o12 o13
    refine ⟨_, fun j r' m' => ∃ (ks : List Nat) (o7 : Option D), m' = (o, .lst (ks.map fun k => D.int (k : Nat))) :: (q, .lst (kp.map rwD)) :: m ∧ ks.length ≤ j ∧ (∀ k ∈ ks, ∃ hk : k < kp.length, Par a.nums kp[k].nums) ∧ (ks = [] → ∀ k (hk : k < kp.length), k < j → ¬ Par a.nums kp[k].nums) ∧ r' = RS (some (.ref o)) o7, rfl, by rw [List.length_map]; omega, ?_, ?_, ?_⟩
    · exact ⟨[], o7, rfl, Nat.le_refl _, fun _ h => (nomatch h), fun _ _ _ h => absurd h (Nat.not_lt_zero _), rfl⟩
    · rintro j r' m' hj ⟨ks, o7, rfl, kl2, kin, kno, rfl⟩
      rw [List.length_map] at hj
      have hj2 : j < kp.length := by omega
      refine ws_if ?_
      walk_at "gn_1"
      have rj : kp[j]? = some kp[j] := List.getElem?_eq_getElem (h := hj2)
      have ax : atI (kp.map rwD) (j : Int) = some (rwD kp[j]) := atI_nat (by rw [List.getElem?_map, rj]; rfl)
      refine w2_ixM (.tail .head) ⟨ax, ?_⟩
      walk_at "gn_1"
      have kwj := kw j hj2
      refine use_par (by rw [kwj.1]; exact aw) (by omega) ab (fun x hx => by have := kwj.2 x hx; unfold Bd; omega) fun b hb => ?_
      walk_at "gn_1"
      · rename_i hbt
        refine ⟨_, _, rfl, .head, ?_⟩
        walk_at "gn_1"
        refine ⟨_, _, _, rfl, .head, by rw [List.length_map]; omega, .head, ?_⟩
        refine ⟨ks ++ [j], _, by rw [List.map_append]; rfl, by rw [List.length_append]; exact Nat.succ_le_succ kl2, fun k hk => ?_, fun z => ?_, rfl⟩
        · rcases List.mem_append.mp hk with z | z
          · exact kin k z
          · obtain rfl := List.mem_singleton.mp z
            exact ⟨hj2, hb.mp hbt⟩
        · exact absurd z (by simp)
      · rename_i hbf
        refine ⟨ks, _, rfl, by omega, kin, fun z k hk hlt => ?_, rfl⟩
        by_cases e : k < j
        · exact kno z k hk e
        · obtain rfl : k = j := by omega
          intro hp
          rw [hb.mpr hp] at hbf
          cases hbf
    · rintro r' m' ⟨ks, o7, rfl, kl2, kin, kno, rfl⟩
      rw [List.length_map, show ((kp.length : Nat) : Int).toNat = kp.length by omega] at kno
      refine Ws.freeze (i := 6) rfl ?_
      refine ws_if ?_
      walk_at "gn_1"
      · rename_i h1 h2
        refine ⟨_, _, rfl, .head, ?_⟩
        walk_at "gn_1"
        refine ⟨_, _, _, rfl, .head, by rw [List.length_map]; omega, .head, ?_⟩
        have k0 : ks = [] := List.eq_nil_of_length_eq_zero (by omega)
        have nz : nzs a.nums ≠ [] := fun z => by rw [z] at h1; exact absurd h1 (by decide)
        refine ⟨kp ++ [a], _, _, _, _, _, _, _, _, _, _, _, by rw [List.map_append]; rfl, fin _ (kp_new ko so ao nz fun k hk => kno k0 k hk hk), rfl⟩
      · rename_i h1 h2
        cases hnz : nzs a.nums with
        | nil => rw [hnz] at h1; exact absurd h1 (by decide)
        | cons i0 t =>
        cases ks with
        | nil => exact absurd rfl h2
        | cons k0 kt =>
        obtain ⟨hk0, hpar⟩ := kin k0 List.mem_cons_self
        obtain ⟨kpo, q1, q2⟩ := kp_put ko so ao hnz hk0 hpar
        have rk : kp[k0]? = some kp[k0] := List.getElem?_eq_getElem (h := hk0)
        have ax : atI (kp.map rwD) (k0 : Int) = some (rwD kp[k0]) := atI_nat (by rw [List.getElem?_map, rk]; rfl)
        have m0 := ko.b0 _ (List.getElem_mem hk0)
        have st1 := ko.t _ (List.getElem_mem hk0)
        have sb1 := ko.b _ (List.getElem_mem hk0)
        have kwk := kw k0 hk0
        obtain ⟨hi0, _, _⟩ := nzs_cons hnz
        have pl : ((nzs a.nums).map fun j => D.int (j : Nat)) = (i0 :: t).map fun j => D.int (j : Nat) := by rw [hnz]
        have e0 : (nzs a.nums)[0]! = i0 := by rw [hnz]; rfl
        have t0 := ao.t0
        have t1 := ao.t1
        have b0 := ao.b0
        have b1 := ao.b1
        have ta : Bd 20 a.t := by unfold Bd; omega
        have ba : Bd 20 a.b := by unfold Bd; omega
        refine ws_if ?_
        walk_at "gn_1"
        · exact Nat.succ_pos _
        refine w2_ixM .head ⟨ax, ?_⟩
        walk_at "gn_1"
        all_goals try rw [e0]
        all_goals try first
          | exact hi0
          | (rw [kwk.1]; omega)
          | exact Nat.succ_pos _
          | exact ta.mulX q1 (by decide)
          | exact (ta.mul q1).mulX q1 (by decide)
          | exact ba.mulX q2 (by decide)
          | exact (ba.mul q2).mulX q2 (by decide)
          | exact st1.mulX ((ba.mul q2).mul q2) (by omega)
          | exact ((ta.mul q1).mul q1).mulX sb1 (by omega)
          | exact sb1.mulX ((ba.mul q2).mul q2) (by omega)
          | exact absurd h1 ‹_›
          | (rw [hnz]; exact Nat.succ_pos _)
        refine ⟨q, _, _, k0, _, rfl, rfl, .head, ixN_natL (by rw [List.length_map]; exact hk0), .head, ?_⟩
        refine ⟨kp.set k0 (nrw kp[k0] a i0), _, _, _, _, _, _, _, _, _, _, _, by rw [List.map_set]; rfl, fin _ kpo, rfl⟩
      · rename_i h1 h2
        refine ws_if ?_
        walk_at "gn_1"
        · exact absurd ‹_› h1
        · exact absurd ‹_› h1
        refine ⟨kp, _, _, _, _, _, _, _, _, _, _, _, rfl, fin _ (kp_zero ko (List.eq_nil_of_length_eq_zero (by omega))), rfl⟩
  · rintro r' m' ⟨kp, o2, o3, o4, o6, o7, o8, o9, o10, o11, o12, o13, rfl, ko, rfl⟩
    rw [List.length_map] at ko
    rw [List.take_length] at ko
    have rl := ok.len
    have so := condS_ok (w := w) lds
    refine Ws.freeze (i := 1) rfl ?_
    walk_at "gn_1"
    refine kk kp ko.e fun e he => ?_
    obtain ⟨k, hk, rfl⟩ := List.mem_iff_getElem.mp he
    have e1 := congrArg (·.nums) (ko.at hk)
    have eo := so.ent _ (List.getElem_mem (show k < (condS (R.map rwL)).length by rw [← ko.len]; exact hk))
    have e2 : kp[k].nums = _ := e1
    exact ⟨ko.b0 _ he, (ko.t _ he).mono (by omega), (ko.b _ he).mono (by omega), by rw [e2, eo.w]; exact w2⟩
end
end K22
set_option Elab.async false
set_option linter.all false
set_option maxRecDepth 100000
set_option maxHeartbeats 4000000
namespace DL
open PySem PySem.Spec L2
open PyProof.Rows hiding St
section
variable {W : WX} {E : ET} {r : Rho} {m m0 m2 : Mu} {K : KT} {te : TE} {p : Addr} {s iv n : Nat} {vs : List Nat} {c : Int}
/-- [.. for i in range(c)], each item drawn from the pot -/
theorem we_lcDrawF {α : Type} (inj : α → D) (P : α → Prop) (hv : vs = [iv]) (hm : PotM p m0 m) (hc : c = (n : Int)) (hn : n ≤ 1000)
    (hel : ∀ i, i < n → ∀ m1 m', PotM p m1 m' → We wNo eNo te ((r.set iv none).set iv (some (.int (i : Nat)))) m' fun y m4 => ∃ v, y = inj v ∧ P v ∧ PotM p m1 m4)
    (k : ∀ (xs : List α) m', xs.length = n → (∀ x ∈ xs, P x) → PotM p m0 m' → K (.lst (xs.map inj)) m') :
    We W E (tLc (iRng1 (tCons (tC (.int c)) tNil)) (gName iv) tYes te vs) r m K := by
  subst hv
  subst hc
  refine we_frz (we_perm (we_lcI (gk_name (by simp)) (wi_rng1S (wa_cons (we_cint (wa_nil ⟨_, rfl, ⟨rngB (by omega), fun Dd hD => ?_⟩⟩))))))
  refine ⟨fun i m' => ∃ (xs : List α) (m'' : Mu), xs.length = i ∧ (∀ x ∈ xs, P x) ∧ m'.Perm m'' ∧ PotM p ((Dd, .lst (xs.map inj)) :: m0) m'', ?_, fun _ _ _ => Sub.nil, ?_, ?_⟩
  · obtain ⟨cs, a, b, e, h1, h2, h3⟩ := hm
    subst e
    exact ⟨[], _, rfl, fun _ h => (nomatch h), List.Perm.swap _ _ _, cs, a, b, rfl, h1, h2, h3⟩
  · rintro i x m' hx ⟨xs, m'', hl, hp, pm, hq⟩
    obtain ⟨a, ha, rfl⟩ := get_map hx
    obtain ⟨hlt, rfl⟩ := List.getElem?_eq_some_iff.mp ha
    have hi : i < n := by simpa using hlt
    rw [List.getElem_range]
    refine wg_name (wt_yes ⟨fun _ => ?_, fun z => nomatch z⟩)
    refine We.perm pm ((hel i hi _ _ hq).imp fun y m4 ⟨v, e, hv, hq4⟩ => ?_)
    subst e
    obtain ⟨cs, a, b, e, h1, h2, h3⟩ := hq4
    subst e
    refine ⟨xs.map inj, _, .tail .head, by rw [List.length_map]; omega, .tail .head, xs ++ [v], _, by rw [List.length_append, hl]; rfl, fun x hx => ?_, List.Perm.refl _, cs, a, b, by rw [List.map_append]; rfl, h1, h2, h3⟩
    rcases List.mem_append.mp hx with q | q
    · exact hp x q
    · rw [List.mem_singleton.mp q]
      exact hv
  · rintro m' ⟨xs, m'', hl, hp, pm, cs, a, b, e, h1, h2, h3⟩
    subst e
    simp only [List.length_map, List.length_range, Int.toNat_natCast] at hl
    exact ⟨_, pm.trans (List.Perm.swap _ _ _), Dd, xs.map inj, _, rfl, rfl, k xs _ hl hp ⟨cs, a, b, rfl, h1, h2, h3⟩⟩
end
end DL
namespace K22
open PySem PySem.Spec L2 DL
open PyProof.Rows hiding St
open SX (S)
/-! one step, by the goal's head -/

/-! Ratio and Span by numbers: their promises used -/

/-! comprehensions, sums, lists of others -/

section
variable {G : Gx} {C_Ratio C_Load C_Book C_OutOfBounds : Addr}
theorem cut_pot {ns : List Int} (h : ns.length ≤ 63) : cutD (ns.map D.int) none (some 63) = ns.map D.int := cut63 (by rw [List.length_map]; exact h)
def dabs : D → D
  | .int i => .int (i.natAbs : Int)
  | d => d
theorem Phi_le {n : Nat} : ∀ {ls : List Ld}, (∀ a ∈ ls, bt a.wt ≤ n) → Phi ls ≤ ls.length * (n + 40)
  | [], _ => Nat.zero_le _
  | a :: ls, h => by
    have ih := Phi_le (ls := ls) fun b hb => h b (List.mem_cons_of_mem _ hb)
    have h1 := h a List.mem_cons_self
    rw [Phi_cons, List.length_cons, Nat.succ_mul]
    omega
theorem rws_phi {w : Nat} {R : List Rw} (h : RwsOk w R) : Phi (R.map rwL) ≤ 1900 := by
  have q := Phi_le (n := 20) (ls := R.map rwL) fun a ha => by
    obtain ⟨e, he, rfl⟩ := List.mem_map.mp ha
    have eo := h.ok e he
    have h1 := eo.t0
    have h2 := eo.t1
    have h3 := eo.b0
    have h4 := eo.b1
    exact bt_le (qb_of (by omega) (by unfold Bd; omega) (by unfold Bd; omega))
  have hl := h.len
  rw [List.length_map] at q
  have : R.length * (20 + 40) ≤ 13 * 60 := Nat.mul_le_mul hl (Nat.le_refl _)
  omega
theorem lsB_of {w : Nat} {ls : List Ld} (h : BkOk w ls) (p : Phi ls ≤ 1900) : LsB ls := by
  refine ⟨h.len, fun a ha => ?_, ?_⟩
  · have := Phi_mem ha
    exact (bt_qb a.wt).mono (by omega)
  · have q := denP_Phi ls
    unfold Bd
    rw [Int.natAbs_natCast]
    exact Nat.lt_of_lt_of_le q (Nat.pow_le_pow_right (by decide) (by omega))
theorem use_cond {CB CL CR : Addr} {w : Nat} {ls : List Ld} {m : Mu} {K : KT} {E : Ex → Mu → Prop} (h : BkOk w ls) (p : Phi ls ≤ 1900) (k : K (bkD CB CL CR w (DL.cond ls)) m) : S_cond CB CL CR [bkD CB CL CR w ls] m K E := ⟨w, ls, rfl, h, p, k⟩
theorem use_energy {CB CL CR : Addr} {w : Nat} {ls : List Ld} {y : List Int} {m : Mu} {K : KT} {E : Ex → Mu → Prop} (h : BkOk w ls) (p : Phi ls ≤ 1900) (hy : WayOk w y) (k : K (rq CR (enQ ls y)) m) : S_energy CB CL CR [bkD CB CL CR w ls, li y] m K E := ⟨w, ls, y, rfl, hy.len, h, lsB_of h p, fun t ht => (hy.bd t ht).mono (by decide), k⟩
local macro_rules | `(tactic| walk_at "fld_1") => `(tactic| (with_reducible refine we_fldF ?_))
local macro_rules | `(tactic| walk_at "useWe_1") => `(tactic| first | (with_reducible refine we_mt ?_) | fail)
local macro_rules | `(tactic| walk_at "sWe_1") => `(tactic| first
  | ((with_reducible refine we_var (d := ?d) ?hv ?hk); case hv => rfl)
  | (with_reducible first
    | refine we_cint ?_ | refine we_2 ?_ | refine we_cl0 ?_ | refine we_tup ?_ | refine we_1 ?_ | refine we_c2 ?_ | refine we_cbl ?_ | refine we_cnon ?_ | refine we_cty ?_ | refine we_cref ?_
    | refine we_op ?_ | refine we_andV ?_ | refine we_orV ?_ | refine we_notV ?_ | refine we_3 ?_ | refine we_ifx ?_ | refine we_cstr ?_ | refine we_clH ?_)
  | walk_at "fld_1"
  | walk_at "useWe_1")
local macro_rules | `(tactic| walk_at "useW2_1") => `(tactic| first
  | (with_reducible refine w2_eqRN ?_) | (with_reducible refine w2_eqLN ?_) | (with_reducible refine w2_eqLli ?_) | (with_reducible refine w2_eqLi ?_)
  | (with_reducible refine w2_ixT ⟨ix_map0 ?_, ?_⟩) | (with_reducible refine w2_ixL ⟨ix_map0 ?_, ?_⟩) | (with_reducible refine w2_ixT ⟨ix_map ?_, ?_⟩) | (with_reducible refine w2_ixL ⟨ix_map ?_, ?_⟩)
  | (with_reducible refine w2_addO (by assumption) (by decide) .fixed .fixed ?_) | (with_reducible refine w2_subO (by assumption) (by decide) .fixed .fixed ?_) | (with_reducible refine w2_mulO (by assumption) (by decide) .fixed .fixed ?_) | (with_reducible refine w1_negO (by assumption) (by decide) .fixed ?_)
  | (with_reducible refine w2_catL .lst .lst ?_ ?_) | fail)
local macro_rules | `(tactic| walk_at "sW2_1") => `(tactic| first
  | (with_reducible first
    | refine w2_add ?_ | refine w2_sub ?_ | refine w2_mul ⟨?_, ?_⟩ | refine w2_fdiv ⟨?_, ?_⟩ | refine w2_mod ⟨?_, ?_⟩ | refine w2_pow ⟨?_, ?_⟩ | refine w2_eqI ?_ | refine w2_neI ?_ | refine w2_lt ?_ | refine w2_le ?_ | refine w2_gt ?_ | refine w2_ge ?_ | refine w2_eqFI ?_ | refine w2_neFI ?_)
  | ((with_reducible refine w2_ixT (d := ?d) ⟨?hv, ?hk⟩); case hv => rfl)
  | ((with_reducible refine w2_ixL (d := ?d) ⟨?hv, ?hk⟩); case hv => rfl)
  | ((with_reducible refine w2_ixM (d := ?d) .head ⟨?hv, ?hk⟩); case hv => rfl)
  | (with_reducible first
    | refine w2_eqIH ?_ | refine w2_neIH ?_ | refine w2_mulH ⟨?_, ?_⟩ | refine w2_addH ?_ | refine w2_subH ?_ | refine w2_isN ?_ | refine w2_notN ?_ | refine w2_isB ?_ | refine w2_notB ?_)
  | walk_at "useW2_1")
local macro_rules | `(tactic| walk_at "sWa_1") => `(tactic| with_reducible first | refine wa_nil ?_ | refine wa_cons ?_)
local macro_rules | `(tactic| walk_at "useWs_1") => `(tactic| first | (with_reducible refine ws_rs0 ?_) | (with_reducible refine ws_rs ?_) | fail)
local macro_rules | `(tactic| walk_at "sWs_1") => `(tactic| first
  | (with_reducible first | refine ws_seq ?_ | refine ws_ret ?_ | refine ws_asg ?_ | refine ws_next ?_ | refine ws_drop ?_ | refine ws_par ?_ | refine ws_par3 ?_ | refine ws_fldN ?_ | refine ws_brk ?_ | refine ws_cont ?_)
  | walk_at "useWs_1")
local macro_rules | `(tactic| walk_at "sWt_1") => `(tactic| with_reducible first | refine wt_test ?_ | refine wt_tr ?_ | refine wt_and ?_ | refine wt_or ?_ | refine wt_not ?_)
local macro_rules | `(tactic| walk_at "useWc_1") => `(tactic| first | (with_reducible refine wc_listF .lst ?_) | fail)
local macro_rules | `(tactic| walk_at "sWc_1") => `(tactic| first
  | (with_reducible first | refine wc_int ?_ | refine wc_abs ?_ | refine wc_min ?_ | refine wc_gcd ?_ | refine wc_isiT .int kit_ii ?_ | refine wc_isiT .int kit_ib ?_ | refine wc_len .lst ?_ | refine wc_len .tup ?_ | refine wc_strI ?_ ?_)
  | walk_at "useWc_1")
local macro_rules | `(tactic| walk_at "sWi_1") => `(tactic| with_reducible first | refine wi_seq ?_ | refine wi_rng1S ?_ | refine wi_rng2 ?_ | refine wi_zipM ?_)
local macro_rules | `(tactic| walk_at "sWg_1") => `(tactic| with_reducible first | refine wg_name ?_ | refine wg_subM ?_ | refine wg_tup rfl ?_)
local macro_rules | `(tactic| walk_at "sW1_1") => `(tactic| first | (with_reducible refine w1_neg ?_) | walk_at "useW2_1")
local macro_rules | `(tactic| walk_at "sWgs_1") => `(tactic| with_reducible first | refine wgs_cons ?_ | refine wgs_nil ?_)
local macro_rules | `(tactic| walk_at "sS_1") => `(tactic| first | (with_reducible refine SlA.mk ?_ ?_) | (with_reducible refine RngA.mk ?_ ?_) | (with_reducible refine LcS.mk ?_ (fun a ha q => ?_) ?_) | (with_reducible exact LcL.mk rfl rfl) | fail)
local macro_rules | `(tactic| walk_at "use_1") => `(tactic| first | (with_reducible refine use_digit ?_ ?_ (by assumption) fun dg m' d0 d1 hpm => ?_) | fail)
local macro_rules | `(tactic| walk_at "sX_1") => `(tactic| first
  | (with_reducible refine ⟨_, rfl, ?_⟩)
  | (with_reducible refine fld_top (by assumption) ?_) | (with_reducible refine fld_bottom (by assumption) ?_)
  | (with_reducible refine ⟨_, .bl, ?_⟩)
  | ((with_reducible refine ⟨?h, ?_⟩); case h => rfl)
  | (with_reducible refine ⟨_, _, rfl, ?_⟩)
  | (with_reducible refine ⟨_, _, _, rfl, ?_⟩)
  | walk_at "use_1"
  | (with_reducible refine setN_top (by assumption) ?_) | (with_reducible refine setN_bottom (by assumption) ?_)
  | ((with_reducible refine ⟨_, _, _, ?j, _, rfl, rfl, .head, ?h, .head, ?_⟩); case h => rfl)
  | fail)
local macro_rules | `(tactic| walk_at "st_1") => `(tactic| first
  | ((with_reducible show We _ _ _ _ _ _); walk_at "sWe_1")
  | ((with_reducible show W2 _ _ _ _ _ _ _ _); walk_at "sW2_1")
  | ((with_reducible show Wa _ _ _ _ _ _); walk_at "sWa_1")
  | ((with_reducible show Ws _ _ _ _ _ _); walk_at "sWs_1")
  | ((with_reducible show Wt _ _ _ _ _ _); walk_at "sWt_1")
  | ((with_reducible show Wc _ _ _ _ _ _ _); walk_at "sWc_1")
  | ((with_reducible show Wi _ _ _ _ _ _); walk_at "sWi_1")
  | ((with_reducible show Wg _ _ _ _ _ _ _); walk_at "sWg_1")
  | ((with_reducible show W1 _ _ _ _ _ _ _); walk_at "sW1_1")
  | ((with_reducible show Wgs _ _ _ _ _ _ _); walk_at "sWgs_1")
  | walk_at "sS_1" | walk_at "sX_1" | fail)
local macro_rules | `(tactic| walk_at "wif_1") => `(tactic| (with_reducible refine ws_if ?_))
local macro_rules | `(tactic| walk_at "dl_1") => `(tactic| repeat (first | walk_at "st_1" | walk_at "wif_1" | fail))
local macro_rules | `(tactic| walk_at "br_1") => `(tactic| ((with_reducible refine ⟨fun hb => ?_, fun hb => ?_⟩) <;> (try simp only [decide_eq_true_eq, decide_eq_false_iff_not, Bool.not_eq_true', Bool.not_eq_false', Bool.and_eq_true, Bool.or_eq_true, reduceCtorEq, List.length_map, Bool.not_true, Bool.not_false, DL.isNon, not_true_eq_false, not_false_eq_true, Classical.not_not, List.all_cons, List.all_nil, id_eq, Bool.and_self, Bool.true_and, decide_true, decide_false] at hb)))
local macro_rules | `(tactic| walk_at "gn_1") => `(tactic| repeat' (first | walk_at "st_1" | walk_at "br_1" | fail))
theorem ok_law (T : Txt G C_Ratio C_Load C_Book C_OutOfBounds) (m_Book_energy : Met G 3 C_Book bN "energy" 2 (S_energy C_Book C_Load C_Ratio) []) (c_condensed : Cal G 5 "condensed" 1 (S_cond C_Book C_Load C_Ratio) []) (c__law_digit : Cal G 1 "_law_digit" 2 S_digit []) (c__law_draw_labels : Cal G 2 "_law_draw_labels" 1 S_labels []) (c__law_draw_rows : Cal G 3 "_law_draw_rows" 4 S_rows []) (c__law_draw_direction : Cal G 2 "_law_draw_direction" 2 S_way []) (c__law_alike : Cal G 2 "_law_alike" 3 (S_alike C_Ratio) []) (c__law_own_energy : Cal G 1 "_law_own_energy" 2 S_oenergy []) (c__law_made : Cal G 5 "_law_made" 2 (S_made C_Book C_Load C_Ratio) []) (c__law_same : Cal G 4 "_law_same" 3 (S_same C_Book C_Load C_Ratio) []) (c__law_own_condensed : Cal G 2 "_law_own_condensed" 1 S_ocond []) {f : Addr} {fd : FuncData} (F : L2.Fun G.K "law" "law" s_law f fd) : FnOk G.P G.w G.K G.mg G.base (L2N.CX G.P G.w) 9 f fd ["script"] (spD 1 (S_law G.K)) := by
  refine fnok_of F sc_law rfl (fun cdv A outer s H FF hr tk => ⟨_, (pss_cons (ps_set (i := 1) sc_law.nd rfl (Or.inr rfl) (pe_lst (pa_cons (pe_lc (own := [("cell", 2)]) (g := (gName 2)) (tt := tYes) rfl sc_law.nd (pi_seqK (KK := G.K) (by rfl) (pe_slice sl_list (pe_var (i := 0) rfl (Or.inl rfl) nd_script.1 nd_script.2) po_none (po_some pe_int))) (blkOk_by (N := N_law) (sc := (defScope s_law)) (by decide +kernel)) (fun _ _ _ _ _ => (pg_name (i := 2) sc_law.nd rfl (Or.inl rfl))) (fun _ _ _ _ _ => pts_nil) (fun _ _ _ _ _ => (pe_cb cs_abs rfl T.n_abs bt_abs (pa_cons (pe_var (i := 2) rfl (Or.inl rfl) nd_cell.1 nd_cell.2) pa_nil)))) (pa_cons pe_int (pa_cons pe_int pa_nil))))) (pss_cons (ps_set (i := 3) sc_law.nd rfl (Or.inr rfl) (pe_bin (os_add hr tk) pe_int (pe_bin os_mod (pe_ct cs_int rfl T.n_int bt_int (pa_cons (pe_bin (os_add hr tk) (pe_cl c__law_digit hr (by decide) tk rfl (pa_cons (pe_var (i := 1) rfl (Or.inr (Or.inl rfl)) nd_pot.1 nd_pot.2) (pa_cons pe_int pa_nil))) pe_int) pa_nil)) pe_int))) (pss_cons (ps_set (i := 4) sc_law.nd rfl (Or.inl rfl) (pe_bin os_mod (pe_ct cs_int rfl T.n_int bt_int (pa_cons (pe_bin (os_add hr tk) (pe_cl c__law_digit hr (by decide) tk rfl (pa_cons (pe_var (i := 1) rfl (Or.inr (Or.inl rfl)) nd_pot.1 nd_pot.2) (pa_cons pe_int pa_nil))) pe_int) pa_nil)) pe_int)) (pss_cons (ps_if (pt_cm (os_eqF hr tk) (pe_cl c__law_digit hr (by decide) tk rfl (pa_cons (pe_var (i := 1) rfl (Or.inr (Or.inl rfl)) nd_pot.1 nd_pot.2) (pa_cons pe_int pa_nil))) pe_int (nomark _)) (pss_one (ps_set (i := 3) sc_law.nd rfl (Or.inr rfl) (pe_bin (os_add hr tk) pe_int (pe_cl c__law_digit hr (by decide) tk rfl (pa_cons (pe_var (i := 1) rfl (Or.inr (Or.inl rfl)) nd_pot.1 nd_pot.2) (pa_cons pe_int pa_nil)))))) pss_nil) (pss_cons (ps_set (i := 5) sc_law.nd rfl (Or.inl rfl) (pe_cl c__law_draw_rows hr (by decide) tk rfl (pa_cons (pe_var (i := 1) rfl (Or.inr (Or.inl rfl)) nd_pot.1 nd_pot.2) (pa_cons (pe_cl c__law_draw_labels hr (by decide) tk rfl (pa_cons (pe_var (i := 1) rfl (Or.inr (Or.inl rfl)) nd_pot.1 nd_pot.2) pa_nil)) (pa_cons (pe_var (i := 3) rfl (Or.inr (Or.inl rfl)) nd_width.1 nd_width.2) (pa_cons (pe_var (i := 4) rfl (Or.inl rfl) nd_many.1 nd_many.2) pa_nil)))))) (pss_cons (ps_setLc (i := 6) (own := [("k", 7)]) (g := (gName 7)) (tt := tYes) rfl sc_law.nd rfl rfl (sw_true rfl rfl rfl (by decide +kernel)) (pi_range1 rfl T.n_range (pa_cons pe_int pa_nil)) (blkOk_by (N := N_law) (sc := (defScope s_law)) (by decide +kernel)) (fun _ _ _ _ _ => (pg_name (i := 7) sc_law.nd rfl (Or.inl rfl))) (fun _ _ _ _ _ => pts_nil) (fun _ _ _ _ _ => (pe_cl c__law_draw_direction hr (by decide) takes0N rfl (pa_cons (pe_var (i := 1) rfl (Or.inr (Or.inl rfl)) nd_pot.1 nd_pot.2) (pa_cons (pe_var (i := 3) rfl (Or.inr (Or.inl rfl)) nd_width.1 nd_width.2) pa_nil))))) (pss_cons (ps_set (i := 8) sc_law.nd rfl (Or.inl rfl) (pe_cl c__law_own_condensed hr (by decide) tk rfl (pa_cons (pe_var (i := 5) rfl (Or.inl rfl) nd_rows.1 nd_rows.2) pa_nil))) (pss_cons (ps_set (i := 9) sc_law.nd rfl (Or.inl rfl) (pe_cl c__law_made hr (by decide) tk rfl (pa_cons (pe_var (i := 3) rfl (Or.inr (Or.inl rfl)) nd_width.1 nd_width.2) (pa_cons (pe_var (i := 5) rfl (Or.inl rfl) nd_rows.1 nd_rows.2) pa_nil)))) (pss_cons (ps_for (passes_of rfl) rfl (pi_range1 rfl T.n_range (pa_cons pe_int pa_nil)) (pg_name (i := 10) sc_law.nd rfl (Or.inl rfl)) (pss_cons (ps_set (i := 11) sc_law.nd rfl (Or.inl rfl) (pe_cl c_condensed hr (by decide) tk rfl (pa_cons (pe_var (i := 9) rfl (Or.inl rfl) nd_book.1 nd_book.2) pa_nil))) (pss_cons (ps_if (pt_not (pt_tr (pe_cl c__law_same hr (by decide) tk rfl (pa_cons (pe_var (i := 11) rfl (Or.inl rfl) nd_told.1 nd_told.2) (pa_cons (pe_var (i := 3) rfl (Or.inr (Or.inl rfl)) nd_width.1 nd_width.2) (pa_cons (pe_var (i := 8) rfl (Or.inl rfl) nd_due.1 nd_due.2) pa_nil)))))) (pss_one (ps_ret pe_bl)) pss_nil) (pss_cons (ps_for (passes_of rfl) rfl (pi_seq (pe_var (i := 6) rfl (Or.inl rfl) nd_ways.1 nd_ways.2)) (pg_name (i := 12) sc_law.nd rfl (Or.inl rfl)) (pss_cons (ps_set (i := 13) sc_law.nd rfl (Or.inl rfl) (pe_cl c__law_own_energy hr (by decide) tk rfl (pa_cons (pe_var (i := 5) rfl (Or.inl rfl) nd_rows.1 nd_rows.2) (pa_cons (pe_var (i := 12) rfl (Or.inl rfl) nd_way.1 nd_way.2) pa_nil)))) (pss_cons (ps_if (pt_not (pt_tr (pe_cl c__law_alike hr (by decide) tk rfl (pa_cons (pe_mth hr tk (pe_var (i := 11) rfl (Or.inl rfl) nd_told.1 nd_told.2) (pa_cons (pe_ct (oc := cListF G) cs_list rfl T.n_list bt_list (pa_cons (pe_var (i := 12) rfl (Or.inl rfl) nd_way.1 nd_way.2) pa_nil)) pa_nil)) (pa_cons (pe_ix ix_seq (pe_var (i := 13) rfl (Or.inl rfl) nd_total.1 nd_total.2) pe_int (fun _ _ => rfl)) (pa_cons (pe_ix ix_seq (pe_var (i := 13) rfl (Or.inl rfl) nd_total.1 nd_total.2) pe_int (fun _ _ => rfl)) pa_nil)))))) (pss_one (ps_ret pe_bl)) pss_nil) (pss_one (ps_if (pt_not (pt_tr (pe_cl c__law_alike hr (by decide) tk rfl (pa_cons (pe_mth hr tk (pe_var (i := 9) rfl (Or.inl rfl) nd_book.1 nd_book.2) (pa_cons (pe_ct (oc := cListF G) cs_list rfl T.n_list bt_list (pa_cons (pe_var (i := 12) rfl (Or.inl rfl) nd_way.1 nd_way.2) pa_nil)) pa_nil)) (pa_cons (pe_ix ix_seq (pe_var (i := 13) rfl (Or.inl rfl) nd_total.1 nd_total.2) pe_int (fun _ _ => rfl)) (pa_cons (pe_ix ix_seq (pe_var (i := 13) rfl (Or.inl rfl) nd_total.1 nd_total.2) pe_int (fun _ _ => rfl)) pa_nil)))))) (pss_one (ps_ret pe_bl)) pss_nil))))) (pss_cons (ps_if (pt_not (pt_tr (pe_cl c__law_same hr (by decide) tk rfl (pa_cons (pe_cl c_condensed hr (by decide) tk rfl (pa_cons (pe_var (i := 11) rfl (Or.inl rfl) nd_told.1 nd_told.2) pa_nil)) (pa_cons (pe_var (i := 3) rfl (Or.inr (Or.inl rfl)) nd_width.1 nd_width.2) (pa_cons (pe_var (i := 8) rfl (Or.inl rfl) nd_due.1 nd_due.2) pa_nil)))))) (pss_one (ps_ret pe_bl)) pss_nil) (pss_one (ps_if (pt_not (pt_tr (pe_cl c__law_same hr (by decide) tk rfl (pa_cons (pe_var (i := 9) rfl (Or.inl rfl) nd_book.1 nd_book.2) (pa_cons (pe_var (i := 3) rfl (Or.inr (Or.inl rfl)) nd_width.1 nd_width.2) (pa_cons (pe_var (i := 5) rfl (Or.inl rfl) nd_rows.1 nd_rows.2) pa_nil)))))) (pss_one (ps_ret pe_bl)) pss_nil))))))) (pss_one (ps_ret pe_bl))))))))))), ?_⟩)
  rintro ds m K E - ⟨d, ns, rfl, sd, hl, hb, rfl, k⟩
  show Ws _ _ _ [some d, none, none, none, none, none, none, none, none, none, none, none, none, none] _ _
  dsimp only [cx_G, cx_K]
  refine ws_seq (ws_asg (we_lstM (wa_cons (we_lcm (f := dabs) (we_slS ?_)))))
  walk_at "dl_1"
  refine ⟨ns, sd, wo_none (wo_some ?_)⟩
  walk_at "dl_1"
  rw [cut_pot hl]
  refine ⟨_, .lst, by rw [List.length_map]; exact Nat.ble_eq_true_of_le (by omega), ?_, ?_⟩
  · intro x hx q K2 hk
    obtain ⟨i, hi, rfl⟩ := List.mem_map.mp hx
    walk_at "dl_1"
    exact hk
  walk_at "dl_1"
  intro p hp
  have hp0 : PotM p [] [(p, .lst [.lst ((ns.map D.int).map dabs), .int 0, .int 0])] := by
    have e : (ns.map D.int).map dabs = (ns.map fun i => (i.natAbs : Int)).map D.int := by
      rw [List.map_map, List.map_map]; rfl
    refine ⟨_, 0, 0, by rw [e], by omega, by omega, fun c hc => ?_⟩
    obtain ⟨i, _, rfl⟩ := List.mem_map.mp hc
    omega
  generalize [(p, MO.lst [.lst ((ns.map D.int).map dabs), .int 0, .int 0])] = m0 at *
  walk_at "gn_1"
  all_goals try first | decide | exact bd_lit (by decide)
  rename_i u m1 u0 u1 hm1 v m2 v0 v1 hm2
  have w0 : 1 ≤ 1 + (u + 1).fmod 4 ∧ 1 + (u + 1).fmod 4 ≤ 4 := by rw [fm (by decide)]; omega
  have n0 : 0 ≤ (v + 6).fmod 14 ∧ (v + 6).fmod 14 ≤ 13 := by rw [fm (by decide)]; omega
  generalize 1 + (u + 1).fmod 4 = wd at *
  generalize (v + 6).fmod 14 = n at *
  obtain ⟨n, rfl⟩ := Int.eq_ofNat_of_zero_le n0.1
  refine Ws.cut (fun r' m' => ∃ w : Nat, 1 ≤ w ∧ w ≤ 12 ∧ r' = [some d, some (.ref p), none, some (.int (w : Nat)), some (.int (n : Nat)), none, none, none, none, none, none, none, none, none] ∧ PotM p [] m') ?_ ?_
  · refine ws_if ?_
    walk_at "gn_1"
    all_goals try first | decide | exact bd_lit (by decide)
    · rename_i a m3 a0 a1 hm3 hb7 b m4 b0 b1 hm4
      obtain ⟨b, rfl⟩ := Int.eq_ofNat_of_zero_le b0
      exact ⟨5 + b, by omega, by omega, rfl, hm4⟩
    · obtain ⟨wd, rfl⟩ := Int.eq_ofNat_of_zero_le (show 0 ≤ wd by omega)
      exact ⟨wd, by omega, by omega, rfl, ‹_›⟩
  rintro r' m' ⟨w, w1, w2, rfl, hm3⟩
  walk_at "gn_1"
  refine use_labels hm3 fun L m4 hL hm4 => ?_
  walk_at "gn_1"
  refine use_rows hL w2 (by omega) hm4 fun R m5 hRl hR hm5 => ?_
  walk_at "gn_1"
  refine we_lcDrawF (n := 2) li (WayOk w) rfl hm5 rfl (by decide) ?_ ?_
  · intro i hi mm m' hp
    walk_at "gn_1"
    exact use_way w1 w2 hp fun y m' hy hp2 => ⟨y, rfl, hy, hp2⟩
  intro Y m6 hYl hY hm6
  walk_at "gn_1"
  refine use_ocond w1 w2 hR fun EE hE hEo => ?_
  walk_at "gn_1"
  refine use_made w1 w2 hR ?_
  walk_at "gn_1"
  have bk := rws_bk hR w1 w2
  have ph := rws_phi hR
  have ck := cond_ok bk
  have ci := cond_idem (w := w) (ls := R.map rwL) fun a ha => ⟨bk.ok a ha, bk.wid a ha⟩
  have cen := fun y => cond_en (w := w) (ls := R.map rwL) (fun a ha => ⟨bk.ok a ha, bk.wid a ha⟩) y
  rw [← hE] at ck ci cen
  have el : EE.length ≤ 200 := by
    have := ck.1.len
    rw [List.length_map] at this
    exact this
  have rl := hR.len
  have bE : BkOk w (EE.map rwL) := ck.1
  have pE : Phi (EE.map rwL) ≤ 1900 := Nat.le_trans ck.2 ph
  have ciE : DL.cond (EE.map rwL) = EE.map rwL := ci
  have rE : ∀ e ∈ R, EOk e := fun e he => row_e (hR.ok e he) w2
  refine ws_range1 ?_
  walk_at "gn_1"
  let RR : Option D → Option D → Option D → Option D → Rho := fun o10 o11 o12 o13 => [some d, some (.ref p), none, some (.int (w : Nat)), some (.int (n : Nat)), some (.lst (R.map rwD)), some (.lst (Y.map li)), none, some (.lst (EE.map rwD)), some (bkD C_Book C_Load C_Ratio w (R.map rwL)), o10, o11, o12, o13]
  refine ⟨_, fun i r' m' => m' = m6 ∧ ∃ o10 o11 o12 o13, r' = RR o10 o11 o12 o13, rfl, by decide, ⟨rfl, _, _, _, _, rfl⟩, ?_, ?_⟩
  · rintro i r' m' hi ⟨rfl, o10, o11, o12, o13, rfl⟩
    walk_at "gn_1"
    refine use_cond bk ph ?_
    rw [← hE]
    walk_at "gn_1"
    refine ws_if ?_
    walk_at "gn_1"
    refine use_same el hEo ?_
    walk_at "gn_1"
    all_goals try contradiction
    refine ws_seqI ?_
    walk_at "gn_1"
    refine ⟨_, fun i' r' m'' => m'' = m' ∧ ∃ o12 o13, r' = RR (some (.int (i : Nat))) (some (bkD C_Book C_Load C_Ratio w (EE.map rwL))) o12 o13, .lst, ⟨rfl, _, _, rfl⟩, ?_, ?_⟩
    · rintro i' x r' m'' hx ⟨rfl, o12, o13, rfl⟩
      rw [List.getElem?_map] at hx
      obtain ⟨y, hy, rfl⟩ := Option.map_eq_some_iff.mp hx
      have yo := hY y (List.mem_of_getElem? hy)
      walk_at "gn_1"
      refine use_oenergy w1 w2 hR yo.len yo.bd fun t b b0 et bt bb => ?_
      walk_at "gn_1"
      have qx : Qb 9900 (enQ (R.map rwL) y) := by
        rw [← et]
        exact qb_of b0 (bt.mono (by decide)) (bb.mono (by decide))
      refine ws_if ?_
      walk_at "gn_1"
      refine mt_of0 m_Book_energy (by decide) ?_
      walk_at "gn_1"
      refine use_energy bE pE yo ?_
      rw [cen y]
      walk_at "gn_1"
      refine use_alike b0 et qx (bt.mono (by decide)) (bb.mono (by decide)) ?_
      walk_at "gn_1"
      all_goals try contradiction
      refine ws_if ?_
      walk_at "gn_1"
      refine mt_of0 m_Book_energy (by decide) ?_
      walk_at "gn_1"
      refine use_energy bk ph yo ?_
      walk_at "gn_1"
      refine use_alike b0 et qx (bt.mono (by decide)) (bb.mono (by decide)) ?_
      walk_at "gn_1"
      all_goals try contradiction
      exact ⟨_, _, rfl⟩
    · rintro r' m'' ⟨rfl, o12, o13, rfl⟩
      walk_at "gn_1"
      refine ws_if ?_
      walk_at "gn_1"
      refine use_cond bE pE ?_
      rw [ciE]
      walk_at "gn_1"
      refine use_same el hEo ?_
      walk_at "gn_1"
      all_goals try contradiction
      refine ws_if ?_
      walk_at "gn_1"
      refine use_same (by omega) rE ?_
      walk_at "gn_1"
      all_goals try contradiction
      exact ⟨_, _, _, _, rfl⟩
  · rintro r' m' ⟨rfl, o10, o11, o12, o13, rfl⟩
    walk_at "gn_1"
    exact k _
end
end K22
set_option Elab.async false
set_option linter.all false
set_option maxRecDepth 100000
set_option maxHeartbeats 4000000
namespace K22
open PySem PySem.Spec L2 DL
open PyProof.Rows hiding St
theorem okx_OutOfBounds {G : Gx} {C_OutOfBounds : Addr} (ox : OexC G.K C_OutOfBounds) (no1 : PySem.W.findIn G.K (.ref C_OutOfBounds) "value" = some none) {f : Addr} {fd : FuncData} (F : L2.Fun G.K "__init__" "OutOfBounds.__init__" s_OutOfBounds___init__ f fd) : FnOk G.P G.w G.K G.mg G.base CX0 1 f fd ["self", "value"] (spXI C_OutOfBounds ["value"]) := by
  refine F.ok sc_OutOfBounds___init__ (fun vs H Q E h => ?_) (fun cdv A outer s H vs Q E hr h => ?_)
  · obtain ⟨a, ys, rfl, hl, _⟩ := h
    rw [List.length_cons, hl]
    rfl
  · obtain ⟨a, ys, rfl, hl, ha, k⟩ := h
    match ys, hl with
    | [y1], _ =>
      refine ⟨_, pss_one (ps_ost (pv 0) (pv 1)), ?_⟩
      refine ⟨_, rfl, _, rfl, a, C_OutOfBounds, rfl, ox, no1, .inl ⟨ha, fun dx hdx hne => ?_⟩⟩
      exact k dx _ hdx hne (fun b hb1 hb2 => by rw [upd_ne hb1, upd_ne hb2]) upd_same (by rw [upd_ne hne]; exact upd_same)
theorem all_mk {l : PySem.W.OpenLaw} {w : World} {K : PySem.W.Frag} {h : Heap} {mg : Str → Option Value} {fa : Addr} (X : K.In h) (Gn : h.Ns mainGlobals mg) (hfa : mg "law" = some (.ref fa))
    {C_Ratio : Addr} {C_Load : Addr} {C_Book : Addr} {C_OutOfBounds N_e_OutOfBounds : Addr} {nm_OutOfBounds q_OutOfBounds : Str} {bs_OutOfBounds bm_OutOfBounds sn_OutOfBounds : _} {sub_OutOfBounds ab_OutOfBounds col_OutOfBounds dd_OutOfBounds m0_OutOfBounds m1_OutOfBounds m2_OutOfBounds m3_OutOfBounds m5_OutOfBounds : _} {f_Ratio___init__ : Addr} {od_Ratio___init__ an_Ratio___init__ : Option Addr} {sl_Ratio___init__ : Array (Option Value)} {oc_Ratio___init__ kV_Ratio___init__ dc_Ratio___init__ pm_Ratio___init__ cd_Ratio___init__ ct_Ratio___init__ : Value} {T_Ratio___init__ : Addr} {tk_Ratio___init__ : Tok} {oT_Ratio___init__ : Option Addr} {nT_Ratio___init__ : Nat} {sT_Ratio___init__ : Array (Option Value)} {cT_Ratio___init__ : Value} {f_Ratio_sign : Addr} {od_Ratio_sign an_Ratio_sign : Option Addr} {sl_Ratio_sign : Array (Option Value)} {oc_Ratio_sign kV_Ratio_sign dc_Ratio_sign pm_Ratio_sign cd_Ratio_sign ct_Ratio_sign : Value} {f_Ratio_raised : Addr} {od_Ratio_raised an_Ratio_raised : Option Addr} {sl_Ratio_raised : Array (Option Value)} {oc_Ratio_raised kV_Ratio_raised dc_Ratio_raised pm_Ratio_raised cd_Ratio_raised ct_Ratio_raised : Value} {f_Ratio___add__ : Addr} {od_Ratio___add__ an_Ratio___add__ : Option Addr} {sl_Ratio___add__ : Array (Option Value)} {oc_Ratio___add__ kV_Ratio___add__ dc_Ratio___add__ pm_Ratio___add__ cd_Ratio___add__ ct_Ratio___add__ : Value} {f_Ratio___mul__ : Addr} {od_Ratio___mul__ an_Ratio___mul__ : Option Addr} {sl_Ratio___mul__ : Array (Option Value)} {oc_Ratio___mul__ kV_Ratio___mul__ dc_Ratio___mul__ pm_Ratio___mul__ cd_Ratio___mul__ ct_Ratio___mul__ : Value} {f_Ratio___pow__ : Addr} {od_Ratio___pow__ an_Ratio___pow__ : Option Addr} {sl_Ratio___pow__ : Array (Option Value)} {oc_Ratio___pow__ kV_Ratio___pow__ dc_Ratio___pow__ pm_Ratio___pow__ cd_Ratio___pow__ ct_Ratio___pow__ : Value} {f_row_times : Addr} {od_row_times an_row_times : Option Addr} {sl_row_times : Array (Option Value)} {oc_row_times kV_row_times dc_row_times pm_row_times cd_row_times ct_row_times : Value} {f_is_label : Addr} {od_is_label an_is_label : Option Addr} {sl_is_label : Array (Option Value)} {oc_is_label kV_is_label dc_is_label pm_is_label cd_is_label ct_is_label : Value} {f_Load___init__ : Addr} {od_Load___init__ an_Load___init__ : Option Addr} {sl_Load___init__ : Array (Option Value)} {oc_Load___init__ kV_Load___init__ dc_Load___init__ pm_Load___init__ cd_Load___init__ ct_Load___init__ : Value} {f_Book___init__ : Addr} {od_Book___init__ an_Book___init__ : Option Addr} {sl_Book___init__ : Array (Option Value)} {oc_Book___init__ kV_Book___init__ dc_Book___init__ pm_Book___init__ cd_Book___init__ ct_Book___init__ : Value} {f_Book___len__ : Addr} {od_Book___len__ an_Book___len__ : Option Addr} {sl_Book___len__ : Array (Option Value)} {oc_Book___len__ kV_Book___len__ dc_Book___len__ pm_Book___len__ cd_Book___len__ ct_Book___len__ : Value} {f__whole_weights : Addr} {od__whole_weights an__whole_weights : Option Addr} {sl__whole_weights : Array (Option Value)} {oc__whole_weights kV__whole_weights dc__whole_weights pm__whole_weights cd__whole_weights ct__whole_weights : Value} {f_Book_energy : Addr} {od_Book_energy an_Book_energy : Option Addr} {sl_Book_energy : Array (Option Value)} {oc_Book_energy kV_Book_energy dc_Book_energy pm_Book_energy cd_Book_energy ct_Book_energy : Value} {f__split : Addr} {od__split an__split : Option Addr} {sl__split : Array (Option Value)} {oc__split kV__split dc__split pm__split cd__split ct__split : Value} {f_condensed : Addr} {od_condensed an_condensed : Option Addr} {sl_condensed : Array (Option Value)} {oc_condensed kV_condensed dc_condensed pm_condensed cd_condensed ct_condensed : Value} {f__law_digit : Addr} {od__law_digit an__law_digit : Option Addr} {sl__law_digit : Array (Option Value)} {oc__law_digit kV__law_digit dc__law_digit pm__law_digit cd__law_digit ct__law_digit : Value} {f__law_draw_labels : Addr} {od__law_draw_labels an__law_draw_labels : Option Addr} {sl__law_draw_labels : Array (Option Value)} {oc__law_draw_labels kV__law_draw_labels dc__law_draw_labels pm__law_draw_labels cd__law_draw_labels ct__law_draw_labels : Value} {f__law_draw_weight : Addr} {od__law_draw_weight an__law_draw_weight : Option Addr} {sl__law_draw_weight : Array (Option Value)} {oc__law_draw_weight kV__law_draw_weight dc__law_draw_weight pm__law_draw_weight cd__law_draw_weight ct__law_draw_weight : Value} {f__law_draw_base : Addr} {od__law_draw_base an__law_draw_base : Option Addr} {sl__law_draw_base : Array (Option Value)} {oc__law_draw_base kV__law_draw_base dc__law_draw_base pm__law_draw_base cd__law_draw_base ct__law_draw_base : Value} {f__law_draw_rows : Addr} {od__law_draw_rows an__law_draw_rows : Option Addr} {sl__law_draw_rows : Array (Option Value)} {oc__law_draw_rows kV__law_draw_rows dc__law_draw_rows pm__law_draw_rows cd__law_draw_rows ct__law_draw_rows : Value} {f__law_draw_direction : Addr} {od__law_draw_direction an__law_draw_direction : Option Addr} {sl__law_draw_direction : Array (Option Value)} {oc__law_draw_direction kV__law_draw_direction dc__law_draw_direction pm__law_draw_direction cd__law_draw_direction ct__law_draw_direction : Value} {f__law_whole : Addr} {od__law_whole an__law_whole : Option Addr} {sl__law_whole : Array (Option Value)} {oc__law_whole kV__law_whole dc__law_whole pm__law_whole cd__law_whole ct__law_whole : Value} {f__law_gcd : Addr} {od__law_gcd an__law_gcd : Option Addr} {sl__law_gcd : Array (Option Value)} {oc__law_gcd kV__law_gcd dc__law_gcd pm__law_gcd cd__law_gcd ct__law_gcd : Value} {f__law_alike : Addr} {od__law_alike an__law_alike : Option Addr} {sl__law_alike : Array (Option Value)} {oc__law_alike kV__law_alike dc__law_alike pm__law_alike cd__law_alike ct__law_alike : Value} {f__law_own_energy : Addr} {od__law_own_energy an__law_own_energy : Option Addr} {sl__law_own_energy : Array (Option Value)} {oc__law_own_energy kV__law_own_energy dc__law_own_energy pm__law_own_energy cd__law_own_energy ct__law_own_energy : Value} {f__law_made : Addr} {od__law_made an__law_made : Option Addr} {sl__law_made : Array (Option Value)} {oc__law_made kV__law_made dc__law_made pm__law_made cd__law_made ct__law_made : Value} {f__law_numbers_told : Addr} {od__law_numbers_told an__law_numbers_told : Option Addr} {sl__law_numbers_told : Array (Option Value)} {oc__law_numbers_told kV__law_numbers_told dc__law_numbers_told pm__law_numbers_told cd__law_numbers_told ct__law_numbers_told : Value} {f__law_load_told : Addr} {od__law_load_told an__law_load_told : Option Addr} {sl__law_load_told : Array (Option Value)} {oc__law_load_told kV__law_load_told dc__law_load_told pm__law_load_told cd__law_load_told ct__law_load_told : Value} {f__law_same : Addr} {od__law_same an__law_same : Option Addr} {sl__law_same : Array (Option Value)} {oc__law_same kV__law_same dc__law_same pm__law_same cd__law_same ct__law_same : Value} {f__law_parallel : Addr} {od__law_parallel an__law_parallel : Option Addr} {sl__law_parallel : Array (Option Value)} {oc__law_parallel kV__law_parallel dc__law_parallel pm__law_parallel cd__law_parallel ct__law_parallel : Value} {f__law_own_condensed : Addr} {od__law_own_condensed an__law_own_condensed : Option Addr} {sl__law_own_condensed : Array (Option Value)} {oc__law_own_condensed kV__law_own_condensed dc__law_own_condensed pm__law_own_condensed cd__law_own_condensed ct__law_own_condensed : Value} {f_law : Addr} {od_law an_law : Option Addr} {sl_law : Array (Option Value)} {oc_law kV_law dc_law pm_law cd_law ct_law : Value} {f_OutOfBounds___init__ : Addr} {od_OutOfBounds___init__ an_OutOfBounds___init__ : Option Addr} {sl_OutOfBounds___init__ : Array (Option Value)} {oc_OutOfBounds___init__ kV_OutOfBounds___init__ dc_OutOfBounds___init__ pm_OutOfBounds___init__ cd_OutOfBounds___init__ ct_OutOfBounds___init__ : Value} {tk_LONGEST_LABEL : Tok} {tk_MOST_NUMBERS : Tok} {tk_LARGEST : Tok} {tk_MOST_LOADS : Tok} {tk_MOST_EXPONENT : Tok} {tk_LETTERS : Tok} {tk_DIGITS : Tok}
    (a_Ratio : PySem.W.nsIn K mainGlobals "Ratio" = some (some (.ref C_Ratio)))
    (pg_Ratio : PySem.W.plainGet K C_Ratio Str.empty = true)
    (hd_Ratio : PySem.W.hasDictIn K C_Ratio = true)
    (po_Ratio : PySem.W.plainOver K C_Ratio = true)
    (sa_Ratio : PySem.W.findIn K (.ref C_Ratio) "__setattr__" = some (some (.builtin "object.__setattr__")))
    (mk_Ratio : PySem.W.makesIn K C_Ratio = true)
    (sf_Ratio : PySem.W.selfFirst K C_Ratio = true)
    (kc_Ratio : PySem.W.keepIn K (.ref C_Ratio) = true)
    (ha_Ratio : PySem.W.findIn K (.ref C_Ratio) "__class__" = some (some (.builtin "object.__class__")))
    (mo_Ratio : PySem.W.mroIn K C_Ratio (.type "object") = some true)
    (is_Ratio : PySem.W.isClsIn K C_Ratio = true)
    (su_Ratio : PySem.W.subIn K (.ref C_Ratio) (.ref C_Ratio) = some true)
    (ty_Ratio : PySem.W.typeIn K (.ref C_Ratio) = some (.type "type"))
    (no_top_Ratio : PySem.W.findIn K (.ref C_Ratio) "top" = some none)
    (no_bottom_Ratio : PySem.W.findIn K (.ref C_Ratio) "bottom" = some none)
    (a_Load : PySem.W.nsIn K mainGlobals "Load" = some (some (.ref C_Load)))
    (pg_Load : PySem.W.plainGet K C_Load Str.empty = true)
    (hd_Load : PySem.W.hasDictIn K C_Load = true)
    (po_Load : PySem.W.plainOver K C_Load = true)
    (sa_Load : PySem.W.findIn K (.ref C_Load) "__setattr__" = some (some (.builtin "object.__setattr__")))
    (mk_Load : PySem.W.makesIn K C_Load = true)
    (sf_Load : PySem.W.selfFirst K C_Load = true)
    (kc_Load : PySem.W.keepIn K (.ref C_Load) = true)
    (ha_Load : PySem.W.findIn K (.ref C_Load) "__class__" = some (some (.builtin "object.__class__")))
    (mo_Load : PySem.W.mroIn K C_Load (.type "object") = some true)
    (is_Load : PySem.W.isClsIn K C_Load = true)
    (su_Load : PySem.W.subIn K (.ref C_Load) (.ref C_Load) = some true)
    (ty_Load : PySem.W.typeIn K (.ref C_Load) = some (.type "type"))
    (no_label_Load : PySem.W.findIn K (.ref C_Load) "label" = some none)
    (no_weight_Load : PySem.W.findIn K (.ref C_Load) "weight" = some none)
    (no_numbers_Load : PySem.W.findIn K (.ref C_Load) "numbers" = some none)
    (a_Book : PySem.W.nsIn K mainGlobals "Book" = some (some (.ref C_Book)))
    (pg_Book : PySem.W.plainGet K C_Book Str.empty = true)
    (hd_Book : PySem.W.hasDictIn K C_Book = true)
    (po_Book : PySem.W.plainOver K C_Book = true)
    (sa_Book : PySem.W.findIn K (.ref C_Book) "__setattr__" = some (some (.builtin "object.__setattr__")))
    (mk_Book : PySem.W.makesIn K C_Book = true)
    (sf_Book : PySem.W.selfFirst K C_Book = true)
    (kc_Book : PySem.W.keepIn K (.ref C_Book) = true)
    (ha_Book : PySem.W.findIn K (.ref C_Book) "__class__" = some (some (.builtin "object.__class__")))
    (mo_Book : PySem.W.mroIn K C_Book (.type "object") = some true)
    (is_Book : PySem.W.isClsIn K C_Book = true)
    (su_Book : PySem.W.subIn K (.ref C_Book) (.ref C_Book) = some true)
    (ty_Book : PySem.W.typeIn K (.ref C_Book) = some (.type "type"))
    (no_width_Book : PySem.W.findIn K (.ref C_Book) "width" = some none)
    (no_loads_Book : PySem.W.findIn K (.ref C_Book) "loads" = some none)
    (no__places_Book : PySem.W.findIn K (.ref C_Book) "_places" = some none)
    (a_OutOfBounds : PySem.W.nsIn K mainGlobals "OutOfBounds" = some (some (.ref C_OutOfBounds)))
    (l_OutOfBounds : K.lookup C_OutOfBounds = some (excClassObj nm_OutOfBounds q_OutOfBounds C_OutOfBounds N_e_OutOfBounds bs_OutOfBounds bm_OutOfBounds true sn_OutOfBounds sub_OutOfBounds ab_OutOfBounds col_OutOfBounds dd_OutOfBounds m0_OutOfBounds m1_OutOfBounds m2_OutOfBounds m3_OutOfBounds m5_OutOfBounds "ValueError.__new__"))
    (rf_OutOfBounds : PySem.HandSPX.refsVE bm_OutOfBounds = true)
    (sa_OutOfBounds : PySem.W.findIn K (.ref C_OutOfBounds) "__setattr__" = some (some (.builtin "object.__setattr__")))
    (ex_OutOfBounds : PySem.W.subIn K (.ref C_OutOfBounds) (.type "BaseException") = some true)
    (ty_OutOfBounds : PySem.W.typeIn K (.ref C_OutOfBounds) = some (.type "type"))
    (kc_OutOfBounds : PySem.W.keepIn K (.ref C_OutOfBounds) = true)
    (ga_OutOfBounds : PySem.W.findIn K (.ref C_OutOfBounds) "__getattribute__" = some (some (.builtin "BaseException.__getattribute__")))
    (gg_OutOfBounds : PySem.W.findIn K (.ref C_OutOfBounds) "__getattr__" = some none)
    (hd_OutOfBounds : PySem.W.hasDictIn K C_OutOfBounds = true)
    (ha_OutOfBounds : PySem.W.findIn K (.ref C_OutOfBounds) "__class__" = some (some (.builtin "object.__class__")))
    (mo_OutOfBounds : PySem.W.mroIn K C_OutOfBounds (.type "object") = some true)
    (is_OutOfBounds : PySem.W.isClsIn K C_OutOfBounds = true)
    (su_OutOfBounds : PySem.W.subIn K (.ref C_OutOfBounds) (.ref C_OutOfBounds) = some true)
    (no_value_OutOfBounds : PySem.W.findIn K (.ref C_OutOfBounds) "value" = some none)
    (gs : PySem.W.specialIn K (.builtin "object.__class__") "__get__" = some (some (.builtin "getset_descriptor.__get__")))
    (gt : PySem.W.takesIn K (.builtin "object.__class__") = some true)
    (a_Ratio___init__ : PySem.W.findIn K (.ref C_Ratio) "__init__" = some (some (.ref f_Ratio___init__)))
    (i_Ratio___init__ : PySem.W.isFn K (.ref f_Ratio___init__) = true)
    (l_Ratio___init__ : K.lookup f_Ratio___init__ = some ⟨oc_Ratio___init__, od_Ratio___init__, .func (PySem.W.fnOf "__init__" "Ratio.__init__" (defArgs s_Ratio___init__) (defBody s_Ratio___init__) (defScope s_Ratio___init__) (.ref T_Ratio___init__) kV_Ratio___init__ dc_Ratio___init__ pm_Ratio___init__ an_Ratio___init__ cd_Ratio___init__ ct_Ratio___init__), sl_Ratio___init__⟩)
    (lT_Ratio___init__ : K.lookup T_Ratio___init__ = some ⟨cT_Ratio___init__, oT_Ratio___init__, .seq [Value.int 1 tk_Ratio___init__].toArray nT_Ratio___init__, sT_Ratio___init__⟩)
    (c_Ratio___init__ : PySem.W.codeIn K cd_Ratio___init__ "Ratio.__init__" = true)
    (k_Ratio___init__ : PySem.W.keepIn K (.ref f_Ratio___init__) = true)
    (a_Ratio_sign : PySem.W.findIn K (.ref C_Ratio) "sign" = some (some (.ref f_Ratio_sign)))
    (i_Ratio_sign : PySem.W.isFn K (.ref f_Ratio_sign) = true)
    (l_Ratio_sign : K.lookup f_Ratio_sign = some ⟨oc_Ratio_sign, od_Ratio_sign, .func (PySem.W.fnOf "sign" "Ratio.sign" (defArgs s_Ratio_sign) (defBody s_Ratio_sign) (defScope s_Ratio_sign) .none kV_Ratio_sign dc_Ratio_sign pm_Ratio_sign an_Ratio_sign cd_Ratio_sign ct_Ratio_sign), sl_Ratio_sign⟩)
    (c_Ratio_sign : PySem.W.codeIn K cd_Ratio_sign "Ratio.sign" = true)
    (k_Ratio_sign : PySem.W.keepIn K (.ref f_Ratio_sign) = true)
    (a_Ratio_raised : PySem.W.findIn K (.ref C_Ratio) "raised" = some (some (.ref f_Ratio_raised)))
    (i_Ratio_raised : PySem.W.isFn K (.ref f_Ratio_raised) = true)
    (l_Ratio_raised : K.lookup f_Ratio_raised = some ⟨oc_Ratio_raised, od_Ratio_raised, .func (PySem.W.fnOf "raised" "Ratio.raised" (defArgs s_Ratio_raised) (defBody s_Ratio_raised) (defScope s_Ratio_raised) .none kV_Ratio_raised dc_Ratio_raised pm_Ratio_raised an_Ratio_raised cd_Ratio_raised ct_Ratio_raised), sl_Ratio_raised⟩)
    (c_Ratio_raised : PySem.W.codeIn K cd_Ratio_raised "Ratio.raised" = true)
    (k_Ratio_raised : PySem.W.keepIn K (.ref f_Ratio_raised) = true)
    (a_Ratio___add__ : PySem.W.findIn K (.ref C_Ratio) "__add__" = some (some (.ref f_Ratio___add__)))
    (i_Ratio___add__ : PySem.W.isFn K (.ref f_Ratio___add__) = true)
    (l_Ratio___add__ : K.lookup f_Ratio___add__ = some ⟨oc_Ratio___add__, od_Ratio___add__, .func (PySem.W.fnOf "__add__" "Ratio.__add__" (defArgs s_Ratio___add__) (defBody s_Ratio___add__) (defScope s_Ratio___add__) .none kV_Ratio___add__ dc_Ratio___add__ pm_Ratio___add__ an_Ratio___add__ cd_Ratio___add__ ct_Ratio___add__), sl_Ratio___add__⟩)
    (c_Ratio___add__ : PySem.W.codeIn K cd_Ratio___add__ "Ratio.__add__" = true)
    (k_Ratio___add__ : PySem.W.keepIn K (.ref f_Ratio___add__) = true)
    (a_Ratio___mul__ : PySem.W.findIn K (.ref C_Ratio) "__mul__" = some (some (.ref f_Ratio___mul__)))
    (i_Ratio___mul__ : PySem.W.isFn K (.ref f_Ratio___mul__) = true)
    (l_Ratio___mul__ : K.lookup f_Ratio___mul__ = some ⟨oc_Ratio___mul__, od_Ratio___mul__, .func (PySem.W.fnOf "__mul__" "Ratio.__mul__" (defArgs s_Ratio___mul__) (defBody s_Ratio___mul__) (defScope s_Ratio___mul__) .none kV_Ratio___mul__ dc_Ratio___mul__ pm_Ratio___mul__ an_Ratio___mul__ cd_Ratio___mul__ ct_Ratio___mul__), sl_Ratio___mul__⟩)
    (c_Ratio___mul__ : PySem.W.codeIn K cd_Ratio___mul__ "Ratio.__mul__" = true)
    (k_Ratio___mul__ : PySem.W.keepIn K (.ref f_Ratio___mul__) = true)
    (a_Ratio___pow__ : PySem.W.findIn K (.ref C_Ratio) "__pow__" = some (some (.ref f_Ratio___pow__)))
    (i_Ratio___pow__ : PySem.W.isFn K (.ref f_Ratio___pow__) = true)
    (l_Ratio___pow__ : K.lookup f_Ratio___pow__ = some ⟨oc_Ratio___pow__, od_Ratio___pow__, .func (PySem.W.fnOf "__pow__" "Ratio.__pow__" (defArgs s_Ratio___pow__) (defBody s_Ratio___pow__) (defScope s_Ratio___pow__) .none kV_Ratio___pow__ dc_Ratio___pow__ pm_Ratio___pow__ an_Ratio___pow__ cd_Ratio___pow__ ct_Ratio___pow__), sl_Ratio___pow__⟩)
    (c_Ratio___pow__ : PySem.W.codeIn K cd_Ratio___pow__ "Ratio.__pow__" = true)
    (k_Ratio___pow__ : PySem.W.keepIn K (.ref f_Ratio___pow__) = true)
    (a_row_times : PySem.W.nsIn K mainGlobals "row_times" = some (some (.ref f_row_times)))
    (l_row_times : K.lookup f_row_times = some ⟨oc_row_times, od_row_times, .func (PySem.W.fnOf "row_times" "row_times" (defArgs s_row_times) (defBody s_row_times) (defScope s_row_times) .none kV_row_times dc_row_times pm_row_times an_row_times cd_row_times ct_row_times), sl_row_times⟩)
    (c_row_times : PySem.W.codeIn K cd_row_times "row_times" = true)
    (k_row_times : PySem.W.keepIn K (.ref f_row_times) = true)
    (a_is_label : PySem.W.nsIn K mainGlobals "is_label" = some (some (.ref f_is_label)))
    (l_is_label : K.lookup f_is_label = some ⟨oc_is_label, od_is_label, .func (PySem.W.fnOf "is_label" "is_label" (defArgs s_is_label) (defBody s_is_label) (defScope s_is_label) .none kV_is_label dc_is_label pm_is_label an_is_label cd_is_label ct_is_label), sl_is_label⟩)
    (c_is_label : PySem.W.codeIn K cd_is_label "is_label" = true)
    (k_is_label : PySem.W.keepIn K (.ref f_is_label) = true)
    (a_Load___init__ : PySem.W.findIn K (.ref C_Load) "__init__" = some (some (.ref f_Load___init__)))
    (i_Load___init__ : PySem.W.isFn K (.ref f_Load___init__) = true)
    (l_Load___init__ : K.lookup f_Load___init__ = some ⟨oc_Load___init__, od_Load___init__, .func (PySem.W.fnOf "__init__" "Load.__init__" (defArgs s_Load___init__) (defBody s_Load___init__) (defScope s_Load___init__) .none kV_Load___init__ dc_Load___init__ pm_Load___init__ an_Load___init__ cd_Load___init__ ct_Load___init__), sl_Load___init__⟩)
    (c_Load___init__ : PySem.W.codeIn K cd_Load___init__ "Load.__init__" = true)
    (k_Load___init__ : PySem.W.keepIn K (.ref f_Load___init__) = true)
    (a_Book___init__ : PySem.W.findIn K (.ref C_Book) "__init__" = some (some (.ref f_Book___init__)))
    (i_Book___init__ : PySem.W.isFn K (.ref f_Book___init__) = true)
    (l_Book___init__ : K.lookup f_Book___init__ = some ⟨oc_Book___init__, od_Book___init__, .func (PySem.W.fnOf "__init__" "Book.__init__" (defArgs s_Book___init__) (defBody s_Book___init__) (defScope s_Book___init__) .none kV_Book___init__ dc_Book___init__ pm_Book___init__ an_Book___init__ cd_Book___init__ ct_Book___init__), sl_Book___init__⟩)
    (c_Book___init__ : PySem.W.codeIn K cd_Book___init__ "Book.__init__" = true)
    (k_Book___init__ : PySem.W.keepIn K (.ref f_Book___init__) = true)
    (a_Book___len__ : PySem.W.findIn K (.ref C_Book) "__len__" = some (some (.ref f_Book___len__)))
    (i_Book___len__ : PySem.W.isFn K (.ref f_Book___len__) = true)
    (l_Book___len__ : K.lookup f_Book___len__ = some ⟨oc_Book___len__, od_Book___len__, .func (PySem.W.fnOf "__len__" "Book.__len__" (defArgs s_Book___len__) (defBody s_Book___len__) (defScope s_Book___len__) .none kV_Book___len__ dc_Book___len__ pm_Book___len__ an_Book___len__ cd_Book___len__ ct_Book___len__), sl_Book___len__⟩)
    (c_Book___len__ : PySem.W.codeIn K cd_Book___len__ "Book.__len__" = true)
    (k_Book___len__ : PySem.W.keepIn K (.ref f_Book___len__) = true)
    (a__whole_weights : PySem.W.nsIn K mainGlobals "_whole_weights" = some (some (.ref f__whole_weights)))
    (l__whole_weights : K.lookup f__whole_weights = some ⟨oc__whole_weights, od__whole_weights, .func (PySem.W.fnOf "_whole_weights" "_whole_weights" (defArgs s__whole_weights) (defBody s__whole_weights) (defScope s__whole_weights) .none kV__whole_weights dc__whole_weights pm__whole_weights an__whole_weights cd__whole_weights ct__whole_weights), sl__whole_weights⟩)
    (c__whole_weights : PySem.W.codeIn K cd__whole_weights "_whole_weights" = true)
    (k__whole_weights : PySem.W.keepIn K (.ref f__whole_weights) = true)
    (a_Book_energy : PySem.W.findIn K (.ref C_Book) "energy" = some (some (.ref f_Book_energy)))
    (i_Book_energy : PySem.W.isFn K (.ref f_Book_energy) = true)
    (l_Book_energy : K.lookup f_Book_energy = some ⟨oc_Book_energy, od_Book_energy, .func (PySem.W.fnOf "energy" "Book.energy" (defArgs s_Book_energy) (defBody s_Book_energy) (defScope s_Book_energy) .none kV_Book_energy dc_Book_energy pm_Book_energy an_Book_energy cd_Book_energy ct_Book_energy), sl_Book_energy⟩)
    (c_Book_energy : PySem.W.codeIn K cd_Book_energy "Book.energy" = true)
    (k_Book_energy : PySem.W.keepIn K (.ref f_Book_energy) = true)
    (a__split : PySem.W.nsIn K mainGlobals "_split" = some (some (.ref f__split)))
    (l__split : K.lookup f__split = some ⟨oc__split, od__split, .func (PySem.W.fnOf "_split" "_split" (defArgs s__split) (defBody s__split) (defScope s__split) .none kV__split dc__split pm__split an__split cd__split ct__split), sl__split⟩)
    (c__split : PySem.W.codeIn K cd__split "_split" = true)
    (k__split : PySem.W.keepIn K (.ref f__split) = true)
    (a_condensed : PySem.W.nsIn K mainGlobals "condensed" = some (some (.ref f_condensed)))
    (l_condensed : K.lookup f_condensed = some ⟨oc_condensed, od_condensed, .func (PySem.W.fnOf "condensed" "condensed" (defArgs s_condensed) (defBody s_condensed) (defScope s_condensed) .none kV_condensed dc_condensed pm_condensed an_condensed cd_condensed ct_condensed), sl_condensed⟩)
    (c_condensed : PySem.W.codeIn K cd_condensed "condensed" = true)
    (k_condensed : PySem.W.keepIn K (.ref f_condensed) = true)
    (a__law_digit : PySem.W.nsIn K mainGlobals "_law_digit" = some (some (.ref f__law_digit)))
    (l__law_digit : K.lookup f__law_digit = some ⟨oc__law_digit, od__law_digit, .func (PySem.W.fnOf "_law_digit" "_law_digit" (defArgs s__law_digit) (defBody s__law_digit) (defScope s__law_digit) .none kV__law_digit dc__law_digit pm__law_digit an__law_digit cd__law_digit ct__law_digit), sl__law_digit⟩)
    (c__law_digit : PySem.W.codeIn K cd__law_digit "_law_digit" = true)
    (k__law_digit : PySem.W.keepIn K (.ref f__law_digit) = true)
    (a__law_draw_labels : PySem.W.nsIn K mainGlobals "_law_draw_labels" = some (some (.ref f__law_draw_labels)))
    (l__law_draw_labels : K.lookup f__law_draw_labels = some ⟨oc__law_draw_labels, od__law_draw_labels, .func (PySem.W.fnOf "_law_draw_labels" "_law_draw_labels" (defArgs s__law_draw_labels) (defBody s__law_draw_labels) (defScope s__law_draw_labels) .none kV__law_draw_labels dc__law_draw_labels pm__law_draw_labels an__law_draw_labels cd__law_draw_labels ct__law_draw_labels), sl__law_draw_labels⟩)
    (c__law_draw_labels : PySem.W.codeIn K cd__law_draw_labels "_law_draw_labels" = true)
    (k__law_draw_labels : PySem.W.keepIn K (.ref f__law_draw_labels) = true)
    (a__law_draw_weight : PySem.W.nsIn K mainGlobals "_law_draw_weight" = some (some (.ref f__law_draw_weight)))
    (l__law_draw_weight : K.lookup f__law_draw_weight = some ⟨oc__law_draw_weight, od__law_draw_weight, .func (PySem.W.fnOf "_law_draw_weight" "_law_draw_weight" (defArgs s__law_draw_weight) (defBody s__law_draw_weight) (defScope s__law_draw_weight) .none kV__law_draw_weight dc__law_draw_weight pm__law_draw_weight an__law_draw_weight cd__law_draw_weight ct__law_draw_weight), sl__law_draw_weight⟩)
    (c__law_draw_weight : PySem.W.codeIn K cd__law_draw_weight "_law_draw_weight" = true)
    (k__law_draw_weight : PySem.W.keepIn K (.ref f__law_draw_weight) = true)
    (a__law_draw_base : PySem.W.nsIn K mainGlobals "_law_draw_base" = some (some (.ref f__law_draw_base)))
    (l__law_draw_base : K.lookup f__law_draw_base = some ⟨oc__law_draw_base, od__law_draw_base, .func (PySem.W.fnOf "_law_draw_base" "_law_draw_base" (defArgs s__law_draw_base) (defBody s__law_draw_base) (defScope s__law_draw_base) .none kV__law_draw_base dc__law_draw_base pm__law_draw_base an__law_draw_base cd__law_draw_base ct__law_draw_base), sl__law_draw_base⟩)
    (c__law_draw_base : PySem.W.codeIn K cd__law_draw_base "_law_draw_base" = true)
    (k__law_draw_base : PySem.W.keepIn K (.ref f__law_draw_base) = true)
    (a__law_draw_rows : PySem.W.nsIn K mainGlobals "_law_draw_rows" = some (some (.ref f__law_draw_rows)))
    (l__law_draw_rows : K.lookup f__law_draw_rows = some ⟨oc__law_draw_rows, od__law_draw_rows, .func (PySem.W.fnOf "_law_draw_rows" "_law_draw_rows" (defArgs s__law_draw_rows) (defBody s__law_draw_rows) (defScope s__law_draw_rows) .none kV__law_draw_rows dc__law_draw_rows pm__law_draw_rows an__law_draw_rows cd__law_draw_rows ct__law_draw_rows), sl__law_draw_rows⟩)
    (c__law_draw_rows : PySem.W.codeIn K cd__law_draw_rows "_law_draw_rows" = true)
    (k__law_draw_rows : PySem.W.keepIn K (.ref f__law_draw_rows) = true)
    (a__law_draw_direction : PySem.W.nsIn K mainGlobals "_law_draw_direction" = some (some (.ref f__law_draw_direction)))
    (l__law_draw_direction : K.lookup f__law_draw_direction = some ⟨oc__law_draw_direction, od__law_draw_direction, .func (PySem.W.fnOf "_law_draw_direction" "_law_draw_direction" (defArgs s__law_draw_direction) (defBody s__law_draw_direction) (defScope s__law_draw_direction) .none kV__law_draw_direction dc__law_draw_direction pm__law_draw_direction an__law_draw_direction cd__law_draw_direction ct__law_draw_direction), sl__law_draw_direction⟩)
    (c__law_draw_direction : PySem.W.codeIn K cd__law_draw_direction "_law_draw_direction" = true)
    (k__law_draw_direction : PySem.W.keepIn K (.ref f__law_draw_direction) = true)
    (a__law_whole : PySem.W.nsIn K mainGlobals "_law_whole" = some (some (.ref f__law_whole)))
    (l__law_whole : K.lookup f__law_whole = some ⟨oc__law_whole, od__law_whole, .func (PySem.W.fnOf "_law_whole" "_law_whole" (defArgs s__law_whole) (defBody s__law_whole) (defScope s__law_whole) .none kV__law_whole dc__law_whole pm__law_whole an__law_whole cd__law_whole ct__law_whole), sl__law_whole⟩)
    (c__law_whole : PySem.W.codeIn K cd__law_whole "_law_whole" = true)
    (k__law_whole : PySem.W.keepIn K (.ref f__law_whole) = true)
    (a__law_gcd : PySem.W.nsIn K mainGlobals "_law_gcd" = some (some (.ref f__law_gcd)))
    (l__law_gcd : K.lookup f__law_gcd = some ⟨oc__law_gcd, od__law_gcd, .func (PySem.W.fnOf "_law_gcd" "_law_gcd" (defArgs s__law_gcd) (defBody s__law_gcd) (defScope s__law_gcd) .none kV__law_gcd dc__law_gcd pm__law_gcd an__law_gcd cd__law_gcd ct__law_gcd), sl__law_gcd⟩)
    (c__law_gcd : PySem.W.codeIn K cd__law_gcd "_law_gcd" = true)
    (k__law_gcd : PySem.W.keepIn K (.ref f__law_gcd) = true)
    (a__law_alike : PySem.W.nsIn K mainGlobals "_law_alike" = some (some (.ref f__law_alike)))
    (l__law_alike : K.lookup f__law_alike = some ⟨oc__law_alike, od__law_alike, .func (PySem.W.fnOf "_law_alike" "_law_alike" (defArgs s__law_alike) (defBody s__law_alike) (defScope s__law_alike) .none kV__law_alike dc__law_alike pm__law_alike an__law_alike cd__law_alike ct__law_alike), sl__law_alike⟩)
    (c__law_alike : PySem.W.codeIn K cd__law_alike "_law_alike" = true)
    (k__law_alike : PySem.W.keepIn K (.ref f__law_alike) = true)
    (a__law_own_energy : PySem.W.nsIn K mainGlobals "_law_own_energy" = some (some (.ref f__law_own_energy)))
    (l__law_own_energy : K.lookup f__law_own_energy = some ⟨oc__law_own_energy, od__law_own_energy, .func (PySem.W.fnOf "_law_own_energy" "_law_own_energy" (defArgs s__law_own_energy) (defBody s__law_own_energy) (defScope s__law_own_energy) .none kV__law_own_energy dc__law_own_energy pm__law_own_energy an__law_own_energy cd__law_own_energy ct__law_own_energy), sl__law_own_energy⟩)
    (c__law_own_energy : PySem.W.codeIn K cd__law_own_energy "_law_own_energy" = true)
    (k__law_own_energy : PySem.W.keepIn K (.ref f__law_own_energy) = true)
    (a__law_made : PySem.W.nsIn K mainGlobals "_law_made" = some (some (.ref f__law_made)))
    (l__law_made : K.lookup f__law_made = some ⟨oc__law_made, od__law_made, .func (PySem.W.fnOf "_law_made" "_law_made" (defArgs s__law_made) (defBody s__law_made) (defScope s__law_made) .none kV__law_made dc__law_made pm__law_made an__law_made cd__law_made ct__law_made), sl__law_made⟩)
    (c__law_made : PySem.W.codeIn K cd__law_made "_law_made" = true)
    (k__law_made : PySem.W.keepIn K (.ref f__law_made) = true)
    (a__law_numbers_told : PySem.W.nsIn K mainGlobals "_law_numbers_told" = some (some (.ref f__law_numbers_told)))
    (l__law_numbers_told : K.lookup f__law_numbers_told = some ⟨oc__law_numbers_told, od__law_numbers_told, .func (PySem.W.fnOf "_law_numbers_told" "_law_numbers_told" (defArgs s__law_numbers_told) (defBody s__law_numbers_told) (defScope s__law_numbers_told) .none kV__law_numbers_told dc__law_numbers_told pm__law_numbers_told an__law_numbers_told cd__law_numbers_told ct__law_numbers_told), sl__law_numbers_told⟩)
    (c__law_numbers_told : PySem.W.codeIn K cd__law_numbers_told "_law_numbers_told" = true)
    (k__law_numbers_told : PySem.W.keepIn K (.ref f__law_numbers_told) = true)
    (a__law_load_told : PySem.W.nsIn K mainGlobals "_law_load_told" = some (some (.ref f__law_load_told)))
    (l__law_load_told : K.lookup f__law_load_told = some ⟨oc__law_load_told, od__law_load_told, .func (PySem.W.fnOf "_law_load_told" "_law_load_told" (defArgs s__law_load_told) (defBody s__law_load_told) (defScope s__law_load_told) .none kV__law_load_told dc__law_load_told pm__law_load_told an__law_load_told cd__law_load_told ct__law_load_told), sl__law_load_told⟩)
    (c__law_load_told : PySem.W.codeIn K cd__law_load_told "_law_load_told" = true)
    (k__law_load_told : PySem.W.keepIn K (.ref f__law_load_told) = true)
    (a__law_same : PySem.W.nsIn K mainGlobals "_law_same" = some (some (.ref f__law_same)))
    (l__law_same : K.lookup f__law_same = some ⟨oc__law_same, od__law_same, .func (PySem.W.fnOf "_law_same" "_law_same" (defArgs s__law_same) (defBody s__law_same) (defScope s__law_same) .none kV__law_same dc__law_same pm__law_same an__law_same cd__law_same ct__law_same), sl__law_same⟩)
    (c__law_same : PySem.W.codeIn K cd__law_same "_law_same" = true)
    (k__law_same : PySem.W.keepIn K (.ref f__law_same) = true)
    (a__law_parallel : PySem.W.nsIn K mainGlobals "_law_parallel" = some (some (.ref f__law_parallel)))
    (l__law_parallel : K.lookup f__law_parallel = some ⟨oc__law_parallel, od__law_parallel, .func (PySem.W.fnOf "_law_parallel" "_law_parallel" (defArgs s__law_parallel) (defBody s__law_parallel) (defScope s__law_parallel) .none kV__law_parallel dc__law_parallel pm__law_parallel an__law_parallel cd__law_parallel ct__law_parallel), sl__law_parallel⟩)
    (c__law_parallel : PySem.W.codeIn K cd__law_parallel "_law_parallel" = true)
    (k__law_parallel : PySem.W.keepIn K (.ref f__law_parallel) = true)
    (a__law_own_condensed : PySem.W.nsIn K mainGlobals "_law_own_condensed" = some (some (.ref f__law_own_condensed)))
    (l__law_own_condensed : K.lookup f__law_own_condensed = some ⟨oc__law_own_condensed, od__law_own_condensed, .func (PySem.W.fnOf "_law_own_condensed" "_law_own_condensed" (defArgs s__law_own_condensed) (defBody s__law_own_condensed) (defScope s__law_own_condensed) .none kV__law_own_condensed dc__law_own_condensed pm__law_own_condensed an__law_own_condensed cd__law_own_condensed ct__law_own_condensed), sl__law_own_condensed⟩)
    (c__law_own_condensed : PySem.W.codeIn K cd__law_own_condensed "_law_own_condensed" = true)
    (k__law_own_condensed : PySem.W.keepIn K (.ref f__law_own_condensed) = true)
    (a_law : PySem.W.nsIn K mainGlobals "law" = some (some (.ref f_law)))
    (l_law : K.lookup f_law = some ⟨oc_law, od_law, .func (PySem.W.fnOf "law" "law" (defArgs s_law) (defBody s_law) (defScope s_law) .none kV_law dc_law pm_law an_law cd_law ct_law), sl_law⟩)
    (c_law : PySem.W.codeIn K cd_law "law" = true)
    (k_law : PySem.W.keepIn K (.ref f_law) = true)
    (a_OutOfBounds___init__ : PySem.W.findIn K (.ref C_OutOfBounds) "__init__" = some (some (.ref f_OutOfBounds___init__)))
    (i_OutOfBounds___init__ : PySem.W.typeIn K (.ref f_OutOfBounds___init__) = some (.type "function"))
    (l_OutOfBounds___init__ : K.lookup f_OutOfBounds___init__ = some ⟨oc_OutOfBounds___init__, od_OutOfBounds___init__, .func (PySem.W.fnOf "__init__" "OutOfBounds.__init__" (defArgs s_OutOfBounds___init__) (defBody s_OutOfBounds___init__) (defScope s_OutOfBounds___init__) .none kV_OutOfBounds___init__ dc_OutOfBounds___init__ pm_OutOfBounds___init__ an_OutOfBounds___init__ cd_OutOfBounds___init__ ct_OutOfBounds___init__), sl_OutOfBounds___init__⟩)
    (c_OutOfBounds___init__ : PySem.W.codeIn K cd_OutOfBounds___init__ "OutOfBounds.__init__" = true)
    (k_OutOfBounds___init__ : PySem.W.keepIn K (.ref f_OutOfBounds___init__) = true)
    (rp_Ratio : PySem.W.findIn K (.ref C_Ratio) "__rpow__" = some none)
    (sI_Ratio : PySem.W.subIn K (.type "int") (.ref C_Ratio) = some false)
    (z_abs : PySem.W.nsIn K mainGlobals "abs" = some none)
    (z_len : PySem.W.nsIn K mainGlobals "len" = some none)
    (z_int : PySem.W.nsIn K mainGlobals "int" = some none)
    (z_bool : PySem.W.nsIn K mainGlobals "bool" = some none)
    (z_str : PySem.W.nsIn K mainGlobals "str" = some none)
    (z_range : PySem.W.nsIn K mainGlobals "range" = some none)
    (z_isinstance : PySem.W.nsIn K mainGlobals "isinstance" = some none)
    (z_zip : PySem.W.nsIn K mainGlobals "zip" = some none)
    (z_tuple : PySem.W.nsIn K mainGlobals "tuple" = some none)
    (z_list : PySem.W.nsIn K mainGlobals "list" = some none)
    (z_sum : PySem.W.nsIn K mainGlobals "sum" = some none)
    (z_enumerate : PySem.W.nsIn K mainGlobals "enumerate" = some none)
    (v_gcd : PySem.W.nsIn K mainGlobals "gcd" = some (some (.builtin "math.gcd")))
    (v_lcm : PySem.W.nsIn K mainGlobals "lcm" = some (some (.builtin "math.lcm")))
    (v_LONGEST_LABEL : PySem.W.nsIn K mainGlobals "LONGEST_LABEL" = some (some (Value.int 8 tk_LONGEST_LABEL)))
    (v_MOST_NUMBERS : PySem.W.nsIn K mainGlobals "MOST_NUMBERS" = some (some (Value.int 12 tk_MOST_NUMBERS)))
    (v_LARGEST : PySem.W.nsIn K mainGlobals "LARGEST" = some (some (Value.int 9999 tk_LARGEST)))
    (v_MOST_LOADS : PySem.W.nsIn K mainGlobals "MOST_LOADS" = some (some (Value.int 200 tk_MOST_LOADS)))
    (v_MOST_EXPONENT : PySem.W.nsIn K mainGlobals "MOST_EXPONENT" = some (some (Value.int 64 tk_MOST_EXPONENT)))
    (v_LETTERS : PySem.W.nsIn K mainGlobals "LETTERS" = some (some (Value.str (SX.S [97, 98, 99, 100, 101, 102, 103, 104, 105, 106, 107, 108, 109, 110, 111, 112, 113, 114, 115, 116, 117, 118, 119, 120, 121, 122]) tk_LETTERS)))
    (v_DIGITS : PySem.W.nsIn K mainGlobals "DIGITS" = some (some (Value.str (SX.S [48, 49, 50, 51, 52, 53, 54, 55, 56, 57]) tk_DIGITS))) :
    ∃ fd : FuncData, (∀ (s : Shared) (v : Value), BindsTo s fd ⟨[v], []⟩ [("script", v)]) ∧ ∀ base : Heap, K.In base → base.Ns mainGlobals mg → FnOk l.prog w K mg base (L2N.CX l.prog w) 9 fa fd ["script"] (spD 1 (S_law K)) := by
  have e := hfa.symm.trans (PySem.W.mg_of X Gn a_law)
  cases e
  have cls_Ratio : Cls K C_Ratio := ⟨pg_Ratio, hd_Ratio, po_Ratio, sa_Ratio⟩
  have S0_Ratio : RatC K C_Ratio := ⟨⟨cls_Ratio, ha_Ratio, gs, gt, mo_Ratio⟩, no_top_Ratio, no_bottom_Ratio⟩
  have cls_Load : Cls K C_Load := ⟨pg_Load, hd_Load, po_Load, sa_Load⟩
  have S0_Load : LoadC K C_Load := ⟨⟨cls_Load, ha_Load, gs, gt, mo_Load⟩, no_label_Load, no_weight_Load, no_numbers_Load⟩
  have cls_Book : Cls K C_Book := ⟨pg_Book, hd_Book, po_Book, sa_Book⟩
  have S0_Book : BookC K C_Book := ⟨⟨cls_Book, ha_Book, gs, gt, mo_Book⟩, no_width_Book, no_loads_Book, no__places_Book⟩
  have ox_OutOfBounds : OexC K C_OutOfBounds := ⟨⟨_, _, _, _, _, _, _, _, _, _, _, _, _, _, _, l_OutOfBounds, rf_OutOfBounds⟩, sa_OutOfBounds, ex_OutOfBounds, ty_OutOfBounds, kc_OutOfBounds⟩
  have F_Ratio___init__ : FunW K "__init__" "Ratio.__init__" s_Ratio___init__ [V.int 1] f_Ratio___init__ _ := ⟨⟨_, _, _, _, _, _, _, _, _, _, rfl, l_Ratio___init__, c_Ratio___init__, .inr ⟨by simp, _, _, _, _, rfl, lT_Ratio___init__, rfl, .cons ⟨_, rfl⟩ .nil⟩, .inl rfl⟩, k_Ratio___init__⟩
  obtain ⟨ds, hds, b_Ratio___init__⟩ := F_Ratio___init__.binds1 (ps := ["self", "top", "bottom"]) 3 1 (by simp) rfl fun T kV doc pm an cdv ct us its hl hl2 => match us, its, hl, hl2 with
    | [_, _, _], [e], _, _ => ⟨_, rfl, rfl⟩
  have ed : ds = [] := by
    cases hds
    rfl
  subst ed
  obtain ⟨ds1_Ratio___init__, hds1_Ratio___init__, b1_Ratio___init__⟩ := F_Ratio___init__.binds1 (ps := ["self", "top", "bottom"]) 2 0 (by simp) rfl fun T kV doc pm an cdv ct us its hl hl2 => match us, its, hl, hl2 with
    | [_, _], [e], _, _ => ⟨_, rfl, rfl⟩
  have F_Ratio_sign := fun_mk (st := s_Ratio_sign) l_Ratio_sign c_Ratio_sign k_Ratio_sign
  have b_Ratio_sign := F_Ratio_sign.binds (ps := ["self"]) fun _ _ _ _ _ _ us hl => match us, hl with | [_], _ => rfl
  have F_Ratio_raised := fun_mk (st := s_Ratio_raised) l_Ratio_raised c_Ratio_raised k_Ratio_raised
  have b_Ratio_raised := F_Ratio_raised.binds (ps := ["self", "n"]) fun _ _ _ _ _ _ us hl => match us, hl with | [_, _], _ => rfl
  have F_Ratio___add__ := fun_mk (st := s_Ratio___add__) l_Ratio___add__ c_Ratio___add__ k_Ratio___add__
  have b_Ratio___add__ := F_Ratio___add__.binds (ps := ["self", "other"]) fun _ _ _ _ _ _ us hl => match us, hl with | [_, _], _ => rfl
  have F_Ratio___mul__ := fun_mk (st := s_Ratio___mul__) l_Ratio___mul__ c_Ratio___mul__ k_Ratio___mul__
  have b_Ratio___mul__ := F_Ratio___mul__.binds (ps := ["self", "other"]) fun _ _ _ _ _ _ us hl => match us, hl with | [_, _], _ => rfl
  have F_Ratio___pow__ := fun_mk (st := s_Ratio___pow__) l_Ratio___pow__ c_Ratio___pow__ k_Ratio___pow__
  have b_Ratio___pow__ := F_Ratio___pow__.binds (ps := ["self", "other"]) fun _ _ _ _ _ _ us hl => match us, hl with | [_, _], _ => rfl
  have F_row_times := fun_mk (st := s_row_times) l_row_times c_row_times k_row_times
  have b_row_times := F_row_times.binds (ps := ["row", "direction"]) fun _ _ _ _ _ _ us hl => match us, hl with | [_, _], _ => rfl
  have F_is_label := fun_mk (st := s_is_label) l_is_label c_is_label k_is_label
  have b_is_label := F_is_label.binds (ps := ["text"]) fun _ _ _ _ _ _ us hl => match us, hl with | [_], _ => rfl
  have F_Load___init__ := fun_mk (st := s_Load___init__) l_Load___init__ c_Load___init__ k_Load___init__
  have b_Load___init__ := F_Load___init__.binds (ps := ["self", "label", "weight", "numbers"]) fun _ _ _ _ _ _ us hl => match us, hl with | [_, _, _, _], _ => rfl
  have F_Book___init__ := fun_mk (st := s_Book___init__) l_Book___init__ c_Book___init__ k_Book___init__
  have b_Book___init__ := F_Book___init__.binds (ps := ["self", "width", "loads"]) fun _ _ _ _ _ _ us hl => match us, hl with | [_, _, _], _ => rfl
  have F_Book___len__ := fun_mk (st := s_Book___len__) l_Book___len__ c_Book___len__ k_Book___len__
  have b_Book___len__ := F_Book___len__.binds (ps := ["self"]) fun _ _ _ _ _ _ us hl => match us, hl with | [_], _ => rfl
  have F__whole_weights := fun_mk (st := s__whole_weights) l__whole_weights c__whole_weights k__whole_weights
  have b__whole_weights := F__whole_weights.binds (ps := ["loads"]) fun _ _ _ _ _ _ us hl => match us, hl with | [_], _ => rfl
  have F_Book_energy := fun_mk (st := s_Book_energy) l_Book_energy c_Book_energy k_Book_energy
  have b_Book_energy := F_Book_energy.binds (ps := ["self", "direction"]) fun _ _ _ _ _ _ us hl => match us, hl with | [_, _], _ => rfl
  have F__split := fun_mk (st := s__split) l__split c__split k__split
  have b__split := F__split.binds (ps := ["numbers"]) fun _ _ _ _ _ _ us hl => match us, hl with | [_], _ => rfl
  have F_condensed := fun_mk (st := s_condensed) l_condensed c_condensed k_condensed
  have b_condensed := F_condensed.binds (ps := ["book"]) fun _ _ _ _ _ _ us hl => match us, hl with | [_], _ => rfl
  have F__law_digit := fun_mk (st := s__law_digit) l__law_digit c__law_digit k__law_digit
  have b__law_digit := F__law_digit.binds (ps := ["pot", "many"]) fun _ _ _ _ _ _ us hl => match us, hl with | [_, _], _ => rfl
  have F__law_draw_labels := fun_mk (st := s__law_draw_labels) l__law_draw_labels c__law_draw_labels k__law_draw_labels
  have b__law_draw_labels := F__law_draw_labels.binds (ps := ["pot"]) fun _ _ _ _ _ _ us hl => match us, hl with | [_], _ => rfl
  have F__law_draw_weight := fun_mk (st := s__law_draw_weight) l__law_draw_weight c__law_draw_weight k__law_draw_weight
  have b__law_draw_weight := F__law_draw_weight.binds (ps := ["pot", "k"]) fun _ _ _ _ _ _ us hl => match us, hl with | [_, _], _ => rfl
  have F__law_draw_base := fun_mk (st := s__law_draw_base) l__law_draw_base c__law_draw_base k__law_draw_base
  have b__law_draw_base := F__law_draw_base.binds (ps := ["pot", "width", "great"]) fun _ _ _ _ _ _ us hl => match us, hl with | [_, _, _], _ => rfl
  have F__law_draw_rows := fun_mk (st := s__law_draw_rows) l__law_draw_rows c__law_draw_rows k__law_draw_rows
  have b__law_draw_rows := F__law_draw_rows.binds (ps := ["pot", "signs", "width", "many"]) fun _ _ _ _ _ _ us hl => match us, hl with | [_, _, _, _], _ => rfl
  have F__law_draw_direction := fun_mk (st := s__law_draw_direction) l__law_draw_direction c__law_draw_direction k__law_draw_direction
  have b__law_draw_direction := F__law_draw_direction.binds (ps := ["pot", "width"]) fun _ _ _ _ _ _ us hl => match us, hl with | [_, _], _ => rfl
  have F__law_whole := fun_mk (st := s__law_whole) l__law_whole c__law_whole k__law_whole
  have b__law_whole := F__law_whole.binds (ps := ["told"]) fun _ _ _ _ _ _ us hl => match us, hl with | [_], _ => rfl
  have F__law_gcd := fun_mk (st := s__law_gcd) l__law_gcd c__law_gcd k__law_gcd
  have b__law_gcd := F__law_gcd.binds (ps := ["a", "b"]) fun _ _ _ _ _ _ us hl => match us, hl with | [_, _], _ => rfl
  have F__law_alike := fun_mk (st := s__law_alike) l__law_alike c__law_alike k__law_alike
  have b__law_alike := F__law_alike.binds (ps := ["told", "top", "bottom"]) fun _ _ _ _ _ _ us hl => match us, hl with | [_, _, _], _ => rfl
  have F__law_own_energy := fun_mk (st := s__law_own_energy) l__law_own_energy c__law_own_energy k__law_own_energy
  have b__law_own_energy := F__law_own_energy.binds (ps := ["rows", "way"]) fun _ _ _ _ _ _ us hl => match us, hl with | [_, _], _ => rfl
  have F__law_made := fun_mk (st := s__law_made) l__law_made c__law_made k__law_made
  have b__law_made := F__law_made.binds (ps := ["width", "rows"]) fun _ _ _ _ _ _ us hl => match us, hl with | [_, _], _ => rfl
  have F__law_numbers_told := fun_mk (st := s__law_numbers_told) l__law_numbers_told c__law_numbers_told k__law_numbers_told
  have b__law_numbers_told := F__law_numbers_told.binds (ps := ["told", "due"]) fun _ _ _ _ _ _ us hl => match us, hl with | [_, _], _ => rfl
  have F__law_load_told := fun_mk (st := s__law_load_told) l__law_load_told c__law_load_told k__law_load_told
  have b__law_load_told := F__law_load_told.binds (ps := ["told", "row"]) fun _ _ _ _ _ _ us hl => match us, hl with | [_, _], _ => rfl
  have F__law_same := fun_mk (st := s__law_same) l__law_same c__law_same k__law_same
  have b__law_same := F__law_same.binds (ps := ["told", "width", "rows"]) fun _ _ _ _ _ _ us hl => match us, hl with | [_, _, _], _ => rfl
  have F__law_parallel := fun_mk (st := s__law_parallel) l__law_parallel c__law_parallel k__law_parallel
  have b__law_parallel := F__law_parallel.binds (ps := ["left", "right"]) fun _ _ _ _ _ _ us hl => match us, hl with | [_, _], _ => rfl
  have F__law_own_condensed := fun_mk (st := s__law_own_condensed) l__law_own_condensed c__law_own_condensed k__law_own_condensed
  have b__law_own_condensed := F__law_own_condensed.binds (ps := ["rows"]) fun _ _ _ _ _ _ us hl => match us, hl with | [_], _ => rfl
  have F_law := fun_mk (st := s_law) l_law c_law k_law
  have b_law := F_law.binds (ps := ["script"]) fun _ _ _ _ _ _ us hl => match us, hl with | [_], _ => rfl
  have F_OutOfBounds___init__ := fun_mk (st := s_OutOfBounds___init__) l_OutOfBounds___init__ c_OutOfBounds___init__ k_OutOfBounds___init__
  have b_OutOfBounds___init__ := F_OutOfBounds___init__.binds (ps := ["self", "value"]) fun _ _ _ _ _ _ us hl => match us, hl with | [_, _], _ => rfl
  refine ⟨PySem.W.fnOf "law" "law" (defArgs s_law) (defBody s_law) (defScope s_law) .none kV_law dc_law pm_law an_law cd_law ct_law, fun s v => .of_eq rfl, fun base _ _ => ?_⟩
  have x1_OutOfBounds : Exc ⟨l.prog, w, K, mg, base⟩ "OutOfBounds" C_OutOfBounds ["value"] := ⟨⟨f_OutOfBounds___init__, _, _, okx_OutOfBounds ox_OutOfBounds no_value_OutOfBounds F_OutOfBounds___init__, b_OutOfBounds___init__, a_OutOfBounds___init__, i_OutOfBounds___init__⟩, ox_OutOfBounds, PySem.W.mg_of X Gn a_OutOfBounds⟩
  have T : Txt ⟨l.prog, w, K, mg, base⟩ C_Ratio C_Load C_Book C_OutOfBounds := { n_abs := PySem.W.mg_none_of X Gn z_abs, n_len := PySem.W.mg_none_of X Gn z_len, n_int := PySem.W.mg_none_of X Gn z_int, n_bool := PySem.W.mg_none_of X Gn z_bool, n_str := PySem.W.mg_none_of X Gn z_str, n_range := PySem.W.mg_none_of X Gn z_range, n_isinstance := PySem.W.mg_none_of X Gn z_isinstance, n_zip := PySem.W.mg_none_of X Gn z_zip, n_tuple := PySem.W.mg_none_of X Gn z_tuple, n_list := PySem.W.mg_none_of X Gn z_list, n_sum := PySem.W.mg_none_of X Gn z_sum, n_enumerate := PySem.W.mg_none_of X Gn z_enumerate, mg_gcd := PySem.W.mg_of X Gn v_gcd, mg_lcm := PySem.W.mg_of X Gn v_lcm, gc_LONGEST_LABEL := ⟨_, PySem.W.mg_of X Gn v_LONGEST_LABEL, ⟨_, rfl⟩⟩, gc_MOST_NUMBERS := ⟨_, PySem.W.mg_of X Gn v_MOST_NUMBERS, ⟨_, rfl⟩⟩, gc_LARGEST := ⟨_, PySem.W.mg_of X Gn v_LARGEST, ⟨_, rfl⟩⟩, gc_MOST_LOADS := ⟨_, PySem.W.mg_of X Gn v_MOST_LOADS, ⟨_, rfl⟩⟩, gc_MOST_EXPONENT := ⟨_, PySem.W.mg_of X Gn v_MOST_EXPONENT, ⟨_, rfl⟩⟩, gc_LETTERS := ⟨_, PySem.W.mg_of X Gn v_LETTERS, ⟨_, rfl⟩⟩, gc_DIGITS := ⟨_, PySem.W.mg_of X Gn v_DIGITS, ⟨_, rfl⟩⟩, mg_Ratio := PySem.W.mg_of X Gn a_Ratio, mg_Load := PySem.W.mg_of X Gn a_Load, mg_Book := PySem.W.mg_of X Gn a_Book, mg_OutOfBounds := PySem.W.mg_of X Gn a_OutOfBounds, R_Ratio := S0_Ratio, L_Load := S0_Load, B_Book := S0_Book, XC_OutOfBounds := ⟨⟨ga_OutOfBounds, gg_OutOfBounds, ex_OutOfBounds, hd_OutOfBounds⟩, is_OutOfBounds, ha_OutOfBounds, gs, gt, mo_OutOfBounds⟩, x_OutOfBounds := x1_OutOfBounds, no_OutOfBounds_value := no_value_OutOfBounds, is_Ratio_Ratio := kit_self, is_Load_Load := kit_self, is_Book_Book := kit_self }
  have k_Ratio : Mak ⟨l.prog, w, K, mg, base⟩ _ "Ratio" C_Ratio _ _ [] := ⟨⟨f_Ratio___init__, ok_init T F_Ratio___init__ b_Ratio___init__ .nil rfl, ⟨mk_Ratio, a_Ratio___init__, i_Ratio___init__, kc_Ratio⟩⟩, T.mg_Ratio⟩
  have m_Ratio_sign : Met ⟨l.prog, w, K, mg, base⟩ _ C_Ratio ["top", "bottom"] "sign" _ _ [] := ⟨⟨f_Ratio_sign, ok_qsign T F_Ratio_sign b_Ratio_sign, ⟨a_Ratio_sign, i_Ratio_sign, k_Ratio_sign⟩⟩, cls_Ratio, by decide +kernel⟩
  have m_Ratio_raised : Met ⟨l.prog, w, K, mg, base⟩ _ C_Ratio ["top", "bottom"] "raised" _ _ [] := ⟨⟨f_Ratio_raised, ok_qraised T k_Ratio F_Ratio_raised b_Ratio_raised, ⟨a_Ratio_raised, i_Ratio_raised, k_Ratio_raised⟩⟩, cls_Ratio, by decide +kernel⟩
  have o_Ratio___add__ : Opr ⟨l.prog, w, K, mg, base⟩ _ C_Ratio "__add__" _ _ := ⟨⟨f_Ratio___add__, ok_qadd T k_Ratio F_Ratio___add__ b_Ratio___add__, a_Ratio___add__, i_Ratio___add__⟩, cls_Ratio, sf_Ratio⟩
  have o_Ratio___mul__ : Opr ⟨l.prog, w, K, mg, base⟩ _ C_Ratio "__mul__" _ _ := ⟨⟨f_Ratio___mul__, ok_qmul T k_Ratio F_Ratio___mul__ b_Ratio___mul__, a_Ratio___mul__, i_Ratio___mul__⟩, cls_Ratio, sf_Ratio⟩
  have o_Ratio___pow__ : Opr ⟨l.prog, w, K, mg, base⟩ _ C_Ratio "__pow__" _ _ := ⟨⟨f_Ratio___pow__, ok_qpow T m_Ratio_raised F_Ratio___pow__ b_Ratio___pow__, a_Ratio___pow__, i_Ratio___pow__⟩, cls_Ratio, sf_Ratio⟩
  have pc : PowC K C_Ratio := ⟨by rw [show dunderR "pow" = ("__rpow__" : Str) by decide +kernel]; exact rp_Ratio, sI_Ratio⟩
  have c_row_times : Cal ⟨l.prog, w, K, mg, base⟩ _ "row_times" _ _ [] := ⟨⟨_, ok_rtimes T F_row_times b_row_times, PySem.W.mg_of X Gn a_row_times, k_row_times⟩⟩
  have c_is_label : Cal ⟨l.prog, w, K, mg, base⟩ _ "is_label" _ _ [] := ⟨⟨_, ok_islab T F_is_label b_is_label, PySem.W.mg_of X Gn a_is_label, k_is_label⟩⟩
  have k_Load : Mak ⟨l.prog, w, K, mg, base⟩ _ "Load" C_Load _ _ [] := ⟨⟨f_Load___init__, ok_load T m_Ratio_sign c_is_label F_Load___init__ b_Load___init__, ⟨mk_Load, a_Load___init__, i_Load___init__, kc_Load⟩⟩, T.mg_Load⟩
  have k_Book : Mak ⟨l.prog, w, K, mg, base⟩ _ "Book" C_Book _ _ [] := ⟨⟨f_Book___init__, ok_book T F_Book___init__ b_Book___init__, ⟨mk_Book, a_Book___init__, i_Book___init__, kc_Book⟩⟩, T.mg_Book⟩
  have o_Book___len__ : Opr ⟨l.prog, w, K, mg, base⟩ _ C_Book "__len__" _ _ := ⟨⟨f_Book___len__, ok_blen T F_Book___len__ b_Book___len__, a_Book___len__, i_Book___len__⟩, cls_Book, sf_Book⟩
  have c__whole_weights : Cal ⟨l.prog, w, K, mg, base⟩ _ "_whole_weights" _ _ [] := ⟨⟨_, ok_wwts T F__whole_weights b__whole_weights, PySem.W.mg_of X Gn a__whole_weights, k__whole_weights⟩⟩
  have m_Book_energy : Met ⟨l.prog, w, K, mg, base⟩ _ C_Book ["width", "loads", "_places"] "energy" _ _ [] := ⟨⟨f_Book_energy, ok_energy T k_Ratio c_row_times c__whole_weights F_Book_energy b_Book_energy, ⟨a_Book_energy, i_Book_energy, k_Book_energy⟩⟩, cls_Book, by decide +kernel⟩
  have c__split : Cal ⟨l.prog, w, K, mg, base⟩ _ "_split" _ _ [] := ⟨⟨_, ok_split T F__split b__split, PySem.W.mg_of X Gn a__split, k__split⟩⟩
  have c_condensed : Cal ⟨l.prog, w, K, mg, base⟩ _ "condensed" _ _ [] := ⟨⟨_, ok_cond T pc k_Ratio k_Load k_Book o_Ratio___add__ o_Ratio___mul__ o_Ratio___pow__ c__split F_condensed b_condensed, PySem.W.mg_of X Gn a_condensed, k_condensed⟩⟩
  have c__law_digit : Cal ⟨l.prog, w, K, mg, base⟩ _ "_law_digit" _ _ [] := ⟨⟨_, ok_digit T F__law_digit b__law_digit, PySem.W.mg_of X Gn a__law_digit, k__law_digit⟩⟩
  have c__law_draw_labels : Cal ⟨l.prog, w, K, mg, base⟩ _ "_law_draw_labels" _ _ [] := ⟨⟨_, ok_labels T c__law_digit F__law_draw_labels b__law_draw_labels, PySem.W.mg_of X Gn a__law_draw_labels, k__law_draw_labels⟩⟩
  have c__law_draw_weight : Cal ⟨l.prog, w, K, mg, base⟩ _ "_law_draw_weight" _ _ [] := ⟨⟨_, ok_weight T c__law_digit F__law_draw_weight b__law_draw_weight, PySem.W.mg_of X Gn a__law_draw_weight, k__law_draw_weight⟩⟩
  have c__law_draw_base : Cal ⟨l.prog, w, K, mg, base⟩ _ "_law_draw_base" _ _ [] := ⟨⟨_, ok_base T c__law_digit F__law_draw_base b__law_draw_base, PySem.W.mg_of X Gn a__law_draw_base, k__law_draw_base⟩⟩
  have c__law_draw_rows : Cal ⟨l.prog, w, K, mg, base⟩ _ "_law_draw_rows" _ _ [] := ⟨⟨_, ok_rows T c__law_digit c__law_draw_weight c__law_draw_base F__law_draw_rows b__law_draw_rows, PySem.W.mg_of X Gn a__law_draw_rows, k__law_draw_rows⟩⟩
  have c__law_draw_direction : Cal ⟨l.prog, w, K, mg, base⟩ _ "_law_draw_direction" _ _ [] := ⟨⟨_, ok_way T c__law_digit F__law_draw_direction b__law_draw_direction, PySem.W.mg_of X Gn a__law_draw_direction, k__law_draw_direction⟩⟩
  have c__law_whole : Cal ⟨l.prog, w, K, mg, base⟩ _ "_law_whole" _ _ [] := ⟨⟨_, ok_whole T F__law_whole b__law_whole, PySem.W.mg_of X Gn a__law_whole, k__law_whole⟩⟩
  have c__law_gcd : Cal ⟨l.prog, w, K, mg, base⟩ _ "_law_gcd" _ _ [] := ⟨⟨_, ok_gcd T F__law_gcd b__law_gcd, PySem.W.mg_of X Gn a__law_gcd, k__law_gcd⟩⟩
  have c__law_alike : Cal ⟨l.prog, w, K, mg, base⟩ _ "_law_alike" _ _ [] := ⟨⟨_, ok_alike T c__law_whole c__law_gcd F__law_alike b__law_alike, PySem.W.mg_of X Gn a__law_alike, k__law_alike⟩⟩
  have c__law_own_energy : Cal ⟨l.prog, w, K, mg, base⟩ _ "_law_own_energy" _ _ [] := ⟨⟨_, ok_oenergy T F__law_own_energy b__law_own_energy, PySem.W.mg_of X Gn a__law_own_energy, k__law_own_energy⟩⟩
  have c__law_made : Cal ⟨l.prog, w, K, mg, base⟩ _ "_law_made" _ _ [] := ⟨⟨_, ok_made T k_Ratio k_Load k_Book F__law_made b__law_made, PySem.W.mg_of X Gn a__law_made, k__law_made⟩⟩
  have c__law_numbers_told : Cal ⟨l.prog, w, K, mg, base⟩ _ "_law_numbers_told" _ _ [] := ⟨⟨_, ok_ntold T c__law_whole F__law_numbers_told b__law_numbers_told, PySem.W.mg_of X Gn a__law_numbers_told, k__law_numbers_told⟩⟩
  have c__law_load_told : Cal ⟨l.prog, w, K, mg, base⟩ _ "_law_load_told" _ _ [] := ⟨⟨_, ok_ltold T c__law_alike c__law_numbers_told F__law_load_told b__law_load_told, PySem.W.mg_of X Gn a__law_load_told, k__law_load_told⟩⟩
  have c__law_same : Cal ⟨l.prog, w, K, mg, base⟩ _ "_law_same" _ _ [] := ⟨⟨_, ok_same T o_Book___len__ c__law_whole c__law_load_told F__law_same b__law_same, PySem.W.mg_of X Gn a__law_same, k__law_same⟩⟩
  have c__law_parallel : Cal ⟨l.prog, w, K, mg, base⟩ _ "_law_parallel" _ _ [] := ⟨⟨_, ok_par T F__law_parallel b__law_parallel, PySem.W.mg_of X Gn a__law_parallel, k__law_parallel⟩⟩
  have c__law_own_condensed : Cal ⟨l.prog, w, K, mg, base⟩ _ "_law_own_condensed" _ _ [] := ⟨⟨_, ok_ocond T c__law_parallel F__law_own_condensed b__law_own_condensed, PySem.W.mg_of X Gn a__law_own_condensed, k__law_own_condensed⟩⟩
  exact ok_law T m_Book_energy c_condensed c__law_digit c__law_draw_labels c__law_draw_rows c__law_draw_direction c__law_alike c__law_own_energy c__law_made c__law_same c__law_own_condensed F_law
end K22
set_option Elab.async false
set_option linter.all false
set_option maxRecDepth 100000
set_option maxHeartbeats 0
namespace K22
open PySem PySem.Spec PyProof.Rows L2 DL
open K22R (hookH PcH0 ckH0 PcH1 ckH1 PcH2 ckH2 PcH3 ckH3 PcH4 ckH4 PcH5 ckH5 PcH6 ckH6 PcH7 ckH7)
theorem factsH {P : PySem.W.OpenLaw} {w : World} {mg : Str → Option Value} {fa : Addr} {h : Heap} (Y : hookH.says w h) (G : h.Ns mainGlobals mg) (hmg : mg "law" = some (.ref fa)) : ∃ K : PySem.W.Frag, K.In h ∧ ∃ fd : FuncData, (∀ (s : Shared) (u : Value), BindsTo s fd ⟨[u], []⟩ [("script", u)]) ∧ ∀ base : Heap, K.In base → base.Ns mainGlobals mg → FnOk P.prog w K mg base (L2N.CX P.prog w) 9 fa fd ["script"] (spD 1 (S_law K)) := by
  obtain ⟨K, KX, c⟩ := Y
  obtain ⟨a_Ratio, pg_Ratio, hd_Ratio, po_Ratio, sa_Ratio, mk_Ratio, sf_Ratio, kc_Ratio, ha_Ratio, mo_Ratio, is_Ratio, su_Ratio, ty_Ratio, no_top_Ratio, no_bottom_Ratio, a_Load, pg_Load, hd_Load, po_Load, sa_Load, mk_Load, sf_Load, kc_Load, ha_Load, mo_Load⟩ : PcH0 K := of_decide_eq_true (c.fact 0 (f := ckH0) rfl)
  obtain ⟨is_Load, su_Load, ty_Load, no_label_Load, no_weight_Load, no_numbers_Load, a_Book, pg_Book, hd_Book, po_Book, sa_Book, mk_Book, sf_Book, kc_Book, ha_Book, mo_Book, is_Book, su_Book, ty_Book, no_width_Book, no_loads_Book, no__places_Book, a_OutOfBounds, eo_OutOfBounds, sa_OutOfBounds⟩ : PcH1 K := of_decide_eq_true (c.fact 1 (f := ckH1) rfl)
  obtain ⟨ex_OutOfBounds, ty_OutOfBounds, kc_OutOfBounds, ga_OutOfBounds, gg_OutOfBounds, hd_OutOfBounds, ha_OutOfBounds, mo_OutOfBounds, is_OutOfBounds, su_OutOfBounds, no_value_OutOfBounds, gs, gt, a_Ratio___init__, i_Ratio___init__, fo_Ratio___init__, k_Ratio___init__, a_Ratio_sign, i_Ratio_sign, fo_Ratio_sign, k_Ratio_sign, a_Ratio_raised, i_Ratio_raised, fo_Ratio_raised, k_Ratio_raised⟩ : PcH2 K := of_decide_eq_true (c.fact 2 (f := ckH2) rfl)
  obtain ⟨a_Ratio___add__, i_Ratio___add__, fo_Ratio___add__, k_Ratio___add__, a_Ratio___mul__, i_Ratio___mul__, fo_Ratio___mul__, k_Ratio___mul__, a_Ratio___pow__, i_Ratio___pow__, fo_Ratio___pow__, k_Ratio___pow__, a_row_times, fo_row_times, k_row_times, a_is_label, fo_is_label, k_is_label, a_Load___init__, i_Load___init__, fo_Load___init__, k_Load___init__, a_Book___init__, i_Book___init__, fo_Book___init__⟩ : PcH3 K := of_decide_eq_true (c.fact 3 (f := ckH3) rfl)
  obtain ⟨k_Book___init__, a_Book___len__, i_Book___len__, fo_Book___len__, k_Book___len__, a__whole_weights, fo__whole_weights, k__whole_weights, a_Book_energy, i_Book_energy, fo_Book_energy, k_Book_energy, a__split, fo__split, k__split, a_condensed, fo_condensed, k_condensed, a__law_digit, fo__law_digit, k__law_digit, a__law_draw_labels, fo__law_draw_labels, k__law_draw_labels, a__law_draw_weight⟩ : PcH4 K := of_decide_eq_true (c.fact 4 (f := ckH4) rfl)
  obtain ⟨fo__law_draw_weight, k__law_draw_weight, a__law_draw_base, fo__law_draw_base, k__law_draw_base, a__law_draw_rows, fo__law_draw_rows, k__law_draw_rows, a__law_draw_direction, fo__law_draw_direction, k__law_draw_direction, a__law_whole, fo__law_whole, k__law_whole, a__law_gcd, fo__law_gcd, k__law_gcd, a__law_alike, fo__law_alike, k__law_alike, a__law_own_energy, fo__law_own_energy, k__law_own_energy, a__law_made, fo__law_made⟩ : PcH5 K := of_decide_eq_true (c.fact 5 (f := ckH5) rfl)
  obtain ⟨k__law_made, a__law_numbers_told, fo__law_numbers_told, k__law_numbers_told, a__law_load_told, fo__law_load_told, k__law_load_told, a__law_same, fo__law_same, k__law_same, a__law_parallel, fo__law_parallel, k__law_parallel, a__law_own_condensed, fo__law_own_condensed, k__law_own_condensed, a_law, fo_law, k_law, a_OutOfBounds___init__, i_OutOfBounds___init__, fo_OutOfBounds___init__, k_OutOfBounds___init__, rp_Ratio, sI_Ratio⟩ : PcH6 K := of_decide_eq_true (c.fact 6 (f := ckH6) rfl)
  obtain ⟨z_abs, z_len, z_int, z_bool, z_str, z_range, z_isinstance, z_zip, z_tuple, z_list, z_sum, z_enumerate, v_gcd, v_lcm, vb_LONGEST_LABEL, vb_MOST_NUMBERS, vb_LARGEST, vb_MOST_LOADS, vb_MOST_EXPONENT, vb_LETTERS, vb_DIGITS⟩ : PcH7 K := of_decide_eq_true (c.fact 7 (f := ckH7) rfl)
  obtain ⟨nm_OutOfBounds, q_OutOfBounds, N_e_OutOfBounds, bs_OutOfBounds, bm_OutOfBounds, sn_OutOfBounds, sub_OutOfBounds, ab_OutOfBounds, col_OutOfBounds, dd_OutOfBounds, m0_OutOfBounds, m1_OutOfBounds, m2_OutOfBounds, m3_OutOfBounds, m5_OutOfBounds, l_OutOfBounds, rf_OutOfBounds⟩ := DL.excB_ok eo_OutOfBounds
  obtain ⟨oc_Ratio___init__, od_Ratio___init__, sl_Ratio___init__, kV_Ratio___init__, dc_Ratio___init__, pm_Ratio___init__, an_Ratio___init__, cd_Ratio___init__, ct_Ratio___init__, T_Ratio___init__, tk_Ratio___init__, oT_Ratio___init__, nT_Ratio___init__, sT_Ratio___init__, cT_Ratio___init__, l_Ratio___init__, lT_Ratio___init__, c_Ratio___init__⟩ := c.fn1 0 rfl fo_Ratio___init__
  obtain ⟨oc_Ratio_sign, od_Ratio_sign, sl_Ratio_sign, kV_Ratio_sign, dc_Ratio_sign, pm_Ratio_sign, an_Ratio_sign, cd_Ratio_sign, ct_Ratio_sign, l_Ratio_sign, c_Ratio_sign⟩ := c.fn 1 rfl fo_Ratio_sign
  obtain ⟨oc_Ratio_raised, od_Ratio_raised, sl_Ratio_raised, kV_Ratio_raised, dc_Ratio_raised, pm_Ratio_raised, an_Ratio_raised, cd_Ratio_raised, ct_Ratio_raised, l_Ratio_raised, c_Ratio_raised⟩ := c.fn 2 rfl fo_Ratio_raised
  obtain ⟨oc_Ratio___add__, od_Ratio___add__, sl_Ratio___add__, kV_Ratio___add__, dc_Ratio___add__, pm_Ratio___add__, an_Ratio___add__, cd_Ratio___add__, ct_Ratio___add__, l_Ratio___add__, c_Ratio___add__⟩ := c.fn 3 rfl fo_Ratio___add__
  obtain ⟨oc_Ratio___mul__, od_Ratio___mul__, sl_Ratio___mul__, kV_Ratio___mul__, dc_Ratio___mul__, pm_Ratio___mul__, an_Ratio___mul__, cd_Ratio___mul__, ct_Ratio___mul__, l_Ratio___mul__, c_Ratio___mul__⟩ := c.fn 4 rfl fo_Ratio___mul__
  obtain ⟨oc_Ratio___pow__, od_Ratio___pow__, sl_Ratio___pow__, kV_Ratio___pow__, dc_Ratio___pow__, pm_Ratio___pow__, an_Ratio___pow__, cd_Ratio___pow__, ct_Ratio___pow__, l_Ratio___pow__, c_Ratio___pow__⟩ := c.fn 5 rfl fo_Ratio___pow__
  obtain ⟨oc_row_times, od_row_times, sl_row_times, kV_row_times, dc_row_times, pm_row_times, an_row_times, cd_row_times, ct_row_times, l_row_times, c_row_times⟩ := c.fn 6 rfl fo_row_times
  obtain ⟨oc_is_label, od_is_label, sl_is_label, kV_is_label, dc_is_label, pm_is_label, an_is_label, cd_is_label, ct_is_label, l_is_label, c_is_label⟩ := c.fn 7 rfl fo_is_label
  obtain ⟨oc_Load___init__, od_Load___init__, sl_Load___init__, kV_Load___init__, dc_Load___init__, pm_Load___init__, an_Load___init__, cd_Load___init__, ct_Load___init__, l_Load___init__, c_Load___init__⟩ := c.fn 8 rfl fo_Load___init__
  obtain ⟨oc_Book___init__, od_Book___init__, sl_Book___init__, kV_Book___init__, dc_Book___init__, pm_Book___init__, an_Book___init__, cd_Book___init__, ct_Book___init__, l_Book___init__, c_Book___init__⟩ := c.fn 9 rfl fo_Book___init__
  obtain ⟨oc_Book___len__, od_Book___len__, sl_Book___len__, kV_Book___len__, dc_Book___len__, pm_Book___len__, an_Book___len__, cd_Book___len__, ct_Book___len__, l_Book___len__, c_Book___len__⟩ := c.fn 10 rfl fo_Book___len__
  obtain ⟨oc__whole_weights, od__whole_weights, sl__whole_weights, kV__whole_weights, dc__whole_weights, pm__whole_weights, an__whole_weights, cd__whole_weights, ct__whole_weights, l__whole_weights, c__whole_weights⟩ := c.fn 11 rfl fo__whole_weights
  obtain ⟨oc_Book_energy, od_Book_energy, sl_Book_energy, kV_Book_energy, dc_Book_energy, pm_Book_energy, an_Book_energy, cd_Book_energy, ct_Book_energy, l_Book_energy, c_Book_energy⟩ := c.fn 12 rfl fo_Book_energy
  obtain ⟨oc__split, od__split, sl__split, kV__split, dc__split, pm__split, an__split, cd__split, ct__split, l__split, c__split⟩ := c.fn 13 rfl fo__split
  obtain ⟨oc_condensed, od_condensed, sl_condensed, kV_condensed, dc_condensed, pm_condensed, an_condensed, cd_condensed, ct_condensed, l_condensed, c_condensed⟩ := c.fn 14 rfl fo_condensed
  obtain ⟨oc__law_digit, od__law_digit, sl__law_digit, kV__law_digit, dc__law_digit, pm__law_digit, an__law_digit, cd__law_digit, ct__law_digit, l__law_digit, c__law_digit⟩ := c.fn 15 rfl fo__law_digit
  obtain ⟨oc__law_draw_labels, od__law_draw_labels, sl__law_draw_labels, kV__law_draw_labels, dc__law_draw_labels, pm__law_draw_labels, an__law_draw_labels, cd__law_draw_labels, ct__law_draw_labels, l__law_draw_labels, c__law_draw_labels⟩ := c.fn 16 rfl fo__law_draw_labels
  obtain ⟨oc__law_draw_weight, od__law_draw_weight, sl__law_draw_weight, kV__law_draw_weight, dc__law_draw_weight, pm__law_draw_weight, an__law_draw_weight, cd__law_draw_weight, ct__law_draw_weight, l__law_draw_weight, c__law_draw_weight⟩ := c.fn 17 rfl fo__law_draw_weight
  obtain ⟨oc__law_draw_base, od__law_draw_base, sl__law_draw_base, kV__law_draw_base, dc__law_draw_base, pm__law_draw_base, an__law_draw_base, cd__law_draw_base, ct__law_draw_base, l__law_draw_base, c__law_draw_base⟩ := c.fn 18 rfl fo__law_draw_base
  obtain ⟨oc__law_draw_rows, od__law_draw_rows, sl__law_draw_rows, kV__law_draw_rows, dc__law_draw_rows, pm__law_draw_rows, an__law_draw_rows, cd__law_draw_rows, ct__law_draw_rows, l__law_draw_rows, c__law_draw_rows⟩ := c.fn 19 rfl fo__law_draw_rows
  obtain ⟨oc__law_draw_direction, od__law_draw_direction, sl__law_draw_direction, kV__law_draw_direction, dc__law_draw_direction, pm__law_draw_direction, an__law_draw_direction, cd__law_draw_direction, ct__law_draw_direction, l__law_draw_direction, c__law_draw_direction⟩ := c.fn 20 rfl fo__law_draw_direction
  obtain ⟨oc__law_whole, od__law_whole, sl__law_whole, kV__law_whole, dc__law_whole, pm__law_whole, an__law_whole, cd__law_whole, ct__law_whole, l__law_whole, c__law_whole⟩ := c.fn 21 rfl fo__law_whole
  obtain ⟨oc__law_gcd, od__law_gcd, sl__law_gcd, kV__law_gcd, dc__law_gcd, pm__law_gcd, an__law_gcd, cd__law_gcd, ct__law_gcd, l__law_gcd, c__law_gcd⟩ := c.fn 22 rfl fo__law_gcd
  obtain ⟨oc__law_alike, od__law_alike, sl__law_alike, kV__law_alike, dc__law_alike, pm__law_alike, an__law_alike, cd__law_alike, ct__law_alike, l__law_alike, c__law_alike⟩ := c.fn 23 rfl fo__law_alike
  obtain ⟨oc__law_own_energy, od__law_own_energy, sl__law_own_energy, kV__law_own_energy, dc__law_own_energy, pm__law_own_energy, an__law_own_energy, cd__law_own_energy, ct__law_own_energy, l__law_own_energy, c__law_own_energy⟩ := c.fn 24 rfl fo__law_own_energy
  obtain ⟨oc__law_made, od__law_made, sl__law_made, kV__law_made, dc__law_made, pm__law_made, an__law_made, cd__law_made, ct__law_made, l__law_made, c__law_made⟩ := c.fn 25 rfl fo__law_made
  obtain ⟨oc__law_numbers_told, od__law_numbers_told, sl__law_numbers_told, kV__law_numbers_told, dc__law_numbers_told, pm__law_numbers_told, an__law_numbers_told, cd__law_numbers_told, ct__law_numbers_told, l__law_numbers_told, c__law_numbers_told⟩ := c.fn 26 rfl fo__law_numbers_told
  obtain ⟨oc__law_load_told, od__law_load_told, sl__law_load_told, kV__law_load_told, dc__law_load_told, pm__law_load_told, an__law_load_told, cd__law_load_told, ct__law_load_told, l__law_load_told, c__law_load_told⟩ := c.fn 27 rfl fo__law_load_told
  obtain ⟨oc__law_same, od__law_same, sl__law_same, kV__law_same, dc__law_same, pm__law_same, an__law_same, cd__law_same, ct__law_same, l__law_same, c__law_same⟩ := c.fn 28 rfl fo__law_same
  obtain ⟨oc__law_parallel, od__law_parallel, sl__law_parallel, kV__law_parallel, dc__law_parallel, pm__law_parallel, an__law_parallel, cd__law_parallel, ct__law_parallel, l__law_parallel, c__law_parallel⟩ := c.fn 29 rfl fo__law_parallel
  obtain ⟨oc__law_own_condensed, od__law_own_condensed, sl__law_own_condensed, kV__law_own_condensed, dc__law_own_condensed, pm__law_own_condensed, an__law_own_condensed, cd__law_own_condensed, ct__law_own_condensed, l__law_own_condensed, c__law_own_condensed⟩ := c.fn 30 rfl fo__law_own_condensed
  obtain ⟨oc_law, od_law, sl_law, kV_law, dc_law, pm_law, an_law, cd_law, ct_law, l_law, c_law⟩ := c.fn 31 rfl fo_law
  obtain ⟨oc_OutOfBounds___init__, od_OutOfBounds___init__, sl_OutOfBounds___init__, kV_OutOfBounds___init__, dc_OutOfBounds___init__, pm_OutOfBounds___init__, an_OutOfBounds___init__, cd_OutOfBounds___init__, ct_OutOfBounds___init__, l_OutOfBounds___init__, c_OutOfBounds___init__⟩ := c.fn 32 rfl fo_OutOfBounds___init__
  obtain ⟨tk_LONGEST_LABEL, v_LONGEST_LABEL⟩ := DL.intB_ok vb_LONGEST_LABEL
  obtain ⟨tk_MOST_NUMBERS, v_MOST_NUMBERS⟩ := DL.intB_ok vb_MOST_NUMBERS
  obtain ⟨tk_LARGEST, v_LARGEST⟩ := DL.intB_ok vb_LARGEST
  obtain ⟨tk_MOST_LOADS, v_MOST_LOADS⟩ := DL.intB_ok vb_MOST_LOADS
  obtain ⟨tk_MOST_EXPONENT, v_MOST_EXPONENT⟩ := DL.intB_ok vb_MOST_EXPONENT
  obtain ⟨tk_LETTERS, v_LETTERS⟩ := DL.strB_ok vb_LETTERS
  obtain ⟨tk_DIGITS, v_DIGITS⟩ := DL.strB_ok vb_DIGITS
  exact ⟨K, KX, all_mk KX G hmg a_Ratio pg_Ratio hd_Ratio po_Ratio sa_Ratio mk_Ratio sf_Ratio kc_Ratio ha_Ratio mo_Ratio is_Ratio su_Ratio ty_Ratio no_top_Ratio no_bottom_Ratio a_Load pg_Load hd_Load po_Load sa_Load mk_Load sf_Load kc_Load ha_Load mo_Load is_Load su_Load ty_Load no_label_Load no_weight_Load no_numbers_Load a_Book pg_Book hd_Book po_Book sa_Book mk_Book sf_Book kc_Book ha_Book mo_Book is_Book su_Book ty_Book no_width_Book no_loads_Book no__places_Book a_OutOfBounds l_OutOfBounds rf_OutOfBounds sa_OutOfBounds ex_OutOfBounds ty_OutOfBounds kc_OutOfBounds ga_OutOfBounds gg_OutOfBounds hd_OutOfBounds ha_OutOfBounds mo_OutOfBounds is_OutOfBounds su_OutOfBounds no_value_OutOfBounds gs gt a_Ratio___init__ i_Ratio___init__ l_Ratio___init__ lT_Ratio___init__ c_Ratio___init__ k_Ratio___init__ a_Ratio_sign i_Ratio_sign l_Ratio_sign c_Ratio_sign k_Ratio_sign a_Ratio_raised i_Ratio_raised l_Ratio_raised c_Ratio_raised k_Ratio_raised a_Ratio___add__ i_Ratio___add__ l_Ratio___add__ c_Ratio___add__ k_Ratio___add__ a_Ratio___mul__ i_Ratio___mul__ l_Ratio___mul__ c_Ratio___mul__ k_Ratio___mul__ a_Ratio___pow__ i_Ratio___pow__ l_Ratio___pow__ c_Ratio___pow__ k_Ratio___pow__ a_row_times l_row_times c_row_times k_row_times a_is_label l_is_label c_is_label k_is_label a_Load___init__ i_Load___init__ l_Load___init__ c_Load___init__ k_Load___init__ a_Book___init__ i_Book___init__ l_Book___init__ c_Book___init__ k_Book___init__ a_Book___len__ i_Book___len__ l_Book___len__ c_Book___len__ k_Book___len__ a__whole_weights l__whole_weights c__whole_weights k__whole_weights a_Book_energy i_Book_energy l_Book_energy c_Book_energy k_Book_energy a__split l__split c__split k__split a_condensed l_condensed c_condensed k_condensed a__law_digit l__law_digit c__law_digit k__law_digit a__law_draw_labels l__law_draw_labels c__law_draw_labels k__law_draw_labels a__law_draw_weight l__law_draw_weight c__law_draw_weight k__law_draw_weight a__law_draw_base l__law_draw_base c__law_draw_base k__law_draw_base a__law_draw_rows l__law_draw_rows c__law_draw_rows k__law_draw_rows a__law_draw_direction l__law_draw_direction c__law_draw_direction k__law_draw_direction a__law_whole l__law_whole c__law_whole k__law_whole a__law_gcd l__law_gcd c__law_gcd k__law_gcd a__law_alike l__law_alike c__law_alike k__law_alike a__law_own_energy l__law_own_energy c__law_own_energy k__law_own_energy a__law_made l__law_made c__law_made k__law_made a__law_numbers_told l__law_numbers_told c__law_numbers_told k__law_numbers_told a__law_load_told l__law_load_told c__law_load_told k__law_load_told a__law_same l__law_same c__law_same k__law_same a__law_parallel l__law_parallel c__law_parallel k__law_parallel a__law_own_condensed l__law_own_condensed c__law_own_condensed k__law_own_condensed a_law l_law c_law k_law a_OutOfBounds___init__ i_OutOfBounds___init__ l_OutOfBounds___init__ c_OutOfBounds___init__ k_OutOfBounds___init__ rp_Ratio sI_Ratio z_abs z_len z_int z_bool z_str z_range z_isinstance z_zip z_tuple z_list z_sum z_enumerate v_gcd v_lcm v_LONGEST_LABEL v_MOST_NUMBERS v_LARGEST v_MOST_LOADS v_MOST_EXPONENT v_LETTERS v_DIGITS⟩
end K22
open PySem PySem.W PySem.Calls PyProof.Rows
theorem PySem.Challenge.cw_fewcarry_k22_condensed_holds : PySem.Challenge.rw_fewcarry_k22_condensed.Holds := by
  w_on; o_law
  refine HandSHeadRun.head_imp (r := OpenLaw.row PySem.Challenge.rw_fewcarry_k22_condensed) (q := view (OpenLaw.row PySem.Challenge.rw_fewcarry_k22_condensed).prog [0, 74]) (H := K22R.hookH) (ob := DL.obF K22R.cksH K22R.fnsH) (M := 20000) (loose := K22R.looseH) (d := HandSHeadRun.topDef (OpenLaw.row PySem.Challenge.rw_fewcarry_k22_condensed).prog 74) (kwd := []) DL.obF_eq K22R.runH
    (by kernel_rfl) (by kernel_rfl) (by kernel_rfl) (by rfl) (by first | assumption | decide +kernel) (by decide +kernel) ⟨rfl, rfl, rfl, rfl, rfl, by decide +kernel⟩ ?hw ?hc
  case hw => w_witness2
  case hc =>
    refine DL.walkE (l := PySem.Challenge.rw_fewcarry_k22_condensed) (k := 9) (x := "script") rfl (by kernel_rfl) ⟨rfl, by decide, by decide⟩ ?F
    intro w mg fa h Y G hmg0
    have hmg : mg ("law" : PySem.Str) = some (.ref fa) := by
      have e : (HandSHeadRun.topDef (OpenLaw.row PySem.Challenge.rw_fewcarry_k22_condensed).prog 74).name = ("law" : PySem.Str) := by kernel_rfl
      rw [← e]
      exact hmg0
    exact K22.factsH (P := PySem.Challenge.rw_fewcarry_k22_condensed) Y G hmg

