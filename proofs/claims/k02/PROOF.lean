import PyProof.Rows.All
import HandS.ForMost
import HandS.ForExc
import HandS.Wide
import HandS.Walk
import HandS.CallSlots
import HandS.Deep
import HandS.TupAny
import HandS.Style
import HandS.RaiseMore
import HandS.FStrTup
import PyProof.ReprRoads
import HandS.IsInst
import HandS.Iter
import KE.GoesEnum
import HandS.TupLen
import HandS.WordsDict
import HandS.Gcd
import HandS.EndBits
import Wide.All
import OpenK.AllK
import Wide.FinOn
import PySem.Challenge.RW_gapwise_k02_gaps_and_spread
set_option Elab.async false
set_option linter.all false
set_option maxRecDepth 100000
/-! L3a: values as trees, how they lie in the abstract heap; slots; what is kept. -/
namespace L3
open PySem PySem.Spec PyProof.Rows L2

/-- a value as a tree -/
inductive T where
  | non | bl (b : Bool) | int (i : Int) | str (x : Str)
  | lst (xs : List T) | tup (xs : List T) | dct (kvs : List (T × T))
  | fn (f : Str) | src (k : Nat) (a : Addr) | ex (a : Addr)

def keyT : Key → T
  | .inl i => .int i
  | .inr x => .str x

/-- what else the trees may speak of -/
structure Ctx where
  K : PySem.W.Frag
  mg : Str → Option Value
  /-- the drawn source at an address -/
  src : Nat → Hp → Addr → Prop

mutual
/-- the tree d lies at v: its lists and dicts are all of F -/
inductive D (C : Ctx) (H : Hp) (F : Addr → Prop) : V → T → Prop
  | non : D C H F .non .non
  | bl (b : Bool) : D C H F (.bl b) (.bl b)
  | int (i : Int) : D C H F (.int i) (.int i)
  | str (x : Str) : D C H F (.str x) (.str x)
  | lst {a : Addr} {xs : List V} {ds : List T} : H a = some (.lst xs) → F a → Ds C H F xs ds → D C H F (.ref a) (.lst ds)
  | tup {a : Addr} {xs : List V} {ds : List T} : SqT C.K H a xs → Ds C H F xs ds → D C H F (.ref a) (.tup ds)
  | dctK {a : Addr} {kvs : List (Key × V)} {ds : List T} : H a = some (.dK kvs) → F a → Ds C H F (kvs.map (·.2)) ds → D C H F (.ref a) (.dct ((kvs.map fun p => keyT p.1).zip ds))
  | dctT {a : Addr} {kvs : List (List Key × V)} {ds : List T} : H a = some (.dT kvs) → F a → Ds C H F (kvs.map (·.2)) ds → D C H F (.ref a) (.dct ((kvs.map fun p => T.tup (p.1.map keyT)).zip ds))
  | fn {f : Str} {a : Addr} : C.mg f = some (.ref a) → D C H F (.ref a) (.fn f)
  | src {k : Nat} {a : Addr} : C.src k H a → D C H F (.ref a) (.src k a)
inductive Ds (C : Ctx) (H : Hp) (F : Addr → Prop) : List V → List T → Prop
  | nil : Ds C H F [] []
  | cons {v : V} {vs : List V} {d : T} {ds : List T} : D C H F v d → Ds C H F vs ds → Ds C H F (v :: vs) (d :: ds)
end

/-- things that are written to by their owner alone -/
def LD : HO → Prop
  | .lst _ => True
  | .dK _ => True
  | .dT _ => True
  | .set _ _ => True
  | _ => False

/-- from (F, H) on to (F', H'): whatever is of F, and all that is no list and no dict, stays -/
structure Later (F : Addr → Prop) (H : Hp) (F' : Addr → Prop) (H' : Hp) : Prop where
  rd : ∀ b u, ¬ LD u → H b = some u → H' b = some u
  ls : ∀ b o, F b → LD o → H b = some o → H' b = some o
  fz : ∀ b, F b → F' b
/-- .. nothing at all is written -/
structure Ext (F : Addr → Prop) (H : Hp) (F' : Addr → Prop) (H' : Hp) : Prop where
  same : ∀ b o, H b = some o → H' b = some o
  fz : ∀ b, F b → F' b
  new : ∀ b, F' b → F b ∨ (H b = none ∧ ∃ o, H' b = some o)

theorem Later.refl {F : Addr → Prop} {H : Hp} : Later F H F H := ⟨fun _ _ _ h => h, fun _ _ _ _ h => h, fun _ h => h⟩
theorem Later.trans {F F1 F2 : Addr → Prop} {H H1 H2 : Hp} (a : Later F H F1 H1) (b : Later F1 H1 F2 H2) : Later F H F2 H2 :=
  ⟨fun c u z h => b.rd c u z (a.rd c u z h), fun c o z l h => b.ls c o (a.fz c z) l (a.ls c o z l h), fun c h => b.fz c (a.fz c h)⟩
theorem Ext.refl {F : Addr → Prop} {H : Hp} : Ext F H F H := ⟨fun _ _ h => h, fun _ h => h, fun _ h => .inl h⟩
theorem Ext.trans {F F1 F2 : Addr → Prop} {H H1 H2 : Hp} (a : Ext F H F1 H1) (b : Ext F1 H1 F2 H2) : Ext F H F2 H2 :=
  ⟨fun c o h => b.same c o (a.same c o h), fun c h => b.fz c (a.fz c h), fun c h => by
    rcases b.new c h with z | ⟨z, o, ho⟩
    · exact (a.new c z).imp id fun ⟨h1, o, h2⟩ => ⟨h1, o, b.same c o h2⟩
    · cases e : H c with
      | none => exact .inr ⟨rfl, o, ho⟩
      | some o => rw [a.same c o e] at z; cases z⟩
theorem Ext.later {F F1 : Addr → Prop} {H H1 : Hp} (a : Ext F H F1 H1) : Later F H F1 H1 :=
  ⟨fun c u _ h => a.same c u h, fun c o _ _ h => a.same c _ h, a.fz⟩

/-- the source's own word stays -/
def SrcStays (C : Ctx) : Prop := ∀ (k : Nat) (H H' : Hp) (a : Addr), C.src k H a → (∀ b u, ¬ LD u → H b = some u → H' b = some u) → C.src k H' a

section
variable {C : Ctx} {F F' : Addr → Prop} {H H' : Hp}

theorem SqT.laterK {a : Addr} {xs : List V} (h : SqT C.K H a xs) (l : Later F H F' H') : SqT C.K H' a xs := by
  rcases h with h | h
  · rcases h with h | ⟨o, h⟩
    · exact .inl (.inl (l.rd a _ (fun z => z) h))
    · exact .inl (.inr ⟨o, l.rd a _ (fun z => z) h⟩)
  · exact .inr h

theorem D.later {v : V} {d : T} (h : D C H F v d) (hs : SrcStays C) (l : Later F H F' H') : D C H' F' v d :=
  D.rec (motive_1 := fun v d _ => D C H' F' v d) (motive_2 := fun vs ds _ => Ds C H' F' vs ds)
    .non .bl .int .str (fun h1 h2 _ ih => .lst (l.ls _ _ h2 trivial h1) (l.fz _ h2) ih) (fun h1 _ ih => .tup (SqT.laterK h1 l) ih)
    (fun h1 h2 _ ih => .dctK (l.ls _ _ h2 trivial h1) (l.fz _ h2) ih) (fun h1 h2 _ ih => .dctT (l.ls _ _ h2 trivial h1) (l.fz _ h2) ih) (fun h => .fn h)
    (fun h => .src (hs _ H H' _ h fun b u z r => l.rd b u z r)) .nil (fun _ _ i1 i2 => .cons i1 i2) h
theorem Ds.later {vs : List V} {ds : List T} (h : Ds C H F vs ds) (hs : SrcStays C) (l : Later F H F' H') : Ds C H' F' vs ds := by
  induction vs generalizing ds with
  | nil => cases h; exact .nil
  | cons v vs ih =>
    cases h with
    | cons h1 h2 => exact .cons (h1.later hs l) (ih h2)
theorem Ds.length {vs : List V} {ds : List T} (h : Ds C H F vs ds) : vs.length = ds.length := by
  induction vs generalizing ds with
  | nil => cases h; rfl
  | cons v vs ih =>
    cases h with
    | cons h1 h2 => rw [List.length_cons, List.length_cons, ih h2]
theorem Ds.get {vs : List V} {ds : List T} {i : Nat} {d : T} (h : Ds C H F vs ds) (e : ds[i]? = some d) : ∃ v, vs[i]? = some v ∧ D C H F v d := by
  induction vs generalizing ds i with
  | nil => cases h; simp at e
  | cons v vs ih =>
    cases h with
    | cons h1 h2 =>
      cases i with
      | zero => simp at e; subst e; exact ⟨v, rfl, h1⟩
      | succ i => exact ih h2 (by simpa using e)
theorem Ds.get' {vs : List V} {ds : List T} {i : Nat} {v : V} (h : Ds C H F vs ds) (e : vs[i]? = some v) : ∃ d, ds[i]? = some d ∧ D C H F v d := by
  induction vs generalizing ds i with
  | nil => simp at e
  | cons w vs ih =>
    cases h with
    | cons h1 h2 =>
      cases i with
      | zero => simp at e; subst e; exact ⟨_, rfl, h1⟩
      | succ i =>
        obtain ⟨d, h3, h4⟩ := ih (i := i) h2 (by simpa using e)
        exact ⟨d, by simpa using h3, h4⟩
theorem Ds.append {vs ws : List V} {ds es : List T} (h : Ds C H F vs ds) (g : Ds C H F ws es) : Ds C H F (vs ++ ws) (ds ++ es) := by
  induction vs generalizing ds with
  | nil => cases h; exact g
  | cons v vs ih =>
    cases h with
    | cons h1 h2 => exact .cons h1 (ih h2)
theorem Ds.take {vs : List V} {ds : List T} (n : Nat) (h : Ds C H F vs ds) : Ds C H F (vs.take n) (ds.take n) := by
  induction n generalizing vs ds with
  | zero => exact .nil
  | succ n ih =>
    cases vs with
    | nil => cases h; exact .nil
    | cons v vs =>
      cases h with
      | cons h1 h2 => exact .cons h1 (ih h2)
theorem Ds.drop {vs : List V} {ds : List T} (n : Nat) (h : Ds C H F vs ds) : Ds C H F (vs.drop n) (ds.drop n) := by
  induction n generalizing vs ds with
  | zero => exact h
  | succ n ih =>
    cases vs with
    | nil => cases h; exact .nil
    | cons v vs =>
      cases h with
      | cons h1 h2 => exact ih h2
theorem Ds.reverse {vs : List V} {ds : List T} (h : Ds C H F vs ds) : Ds C H F vs.reverse ds.reverse := by
  induction vs generalizing ds with
  | nil => cases h; exact .nil
  | cons v vs ih =>
    cases h with
    | cons h1 h2 => rw [List.reverse_cons, List.reverse_cons]; exact (ih h2).append (.cons h1 .nil)
/-- a list as the rules want it -/
theorem D.sql {a : Addr} {ds : List T} (h : D C H F (.ref a) (.lst ds)) : ∃ xs, SqL C.K H a xs ∧ Ds C H F xs ds := by
  cases h with
  | lst h1 h2 h3 => exact ⟨_, .inl (.inl h1), h3⟩
theorem D.sqt {a : Addr} {ds : List T} (h : D C H F (.ref a) (.tup ds)) : ∃ xs, SqT C.K H a xs ∧ Ds C H F xs ds := by
  cases h with
  | tup h1 h2 => exact ⟨_, h1, h2⟩
theorem D.lref {v : V} {ds : List T} (h : D C H F v (.lst ds)) : ∃ a, v = .ref a := by
  cases h <;> exact ⟨_, rfl⟩
theorem D.tref {v : V} {ds : List T} (h : D C H F v (.tup ds)) : ∃ a, v = .ref a := by
  cases h <;> exact ⟨_, rfl⟩
theorem D.int_eq {v : V} {i : Int} (h : D C H F v (.int i)) : v = .int i := by cases h; rfl
theorem D.bl_eq {v : V} {i : Bool} (h : D C H F v (.bl i)) : v = .bl i := by cases h; rfl
theorem D.str_eq {v : V} {i : Str} (h : D C H F v (.str i)) : v = .str i := by cases h; rfl
theorem D.non_eq {v : V} (h : D C H F v .non) : v = .non := by cases h; rfl
end
end L3

/-! L3b: slots, the judgements on trees, expressions. -/
namespace L3
open PySem PySem.Spec PyProof.Rows L2

/-- what a name holds: nothing known | a tree that nobody writes to | a list or dict of this frame's own (k = 1: its parts are trees as above; k = 2: its parts are own ones again) -/
inductive Slot where
  | un
  | sh (d : T)
  | own (k : Nat) (d : T)
abbrev Rho := List Slot

/-- the object at a is told by d, its parts by R -/
def Root (H : Hp) (R : List V → List T → Prop) (a : Addr) (d : T) : Prop :=
  (∃ xs ds, d = .lst ds ∧ H a = some (.lst xs) ∧ R xs ds) ∨
  (∃ (kvs : List (Key × V)) (ds : List T), d = .dct ((kvs.map fun p => keyT p.1).zip ds) ∧ H a = some (.dK kvs) ∧ R (kvs.map (·.2)) ds) ∨
  (∃ (kvs : List (List Key × V)) (ds : List T), d = .dct ((kvs.map fun p => T.tup (p.1.map keyT)).zip ds) ∧ H a = some (.dT kvs) ∧ R (kvs.map (·.2)) ds)
inductive OwnL (P : Addr → T → Prop) : List V → List T → Prop
  | nil : OwnL P [] []
  | cons {a : Addr} {vs : List V} {d : T} {ds : List T} : P a d → OwnL P vs ds → OwnL P (.ref a :: vs) (d :: ds)
def OwnAt (C : Ctx) (H : Hp) (F : Addr → Prop) : Nat → Addr → T → Prop
  | 0, _, _ => False
  | 1, a, d => ¬ F a ∧ Root H (Ds C H F) a d
  | k + 2, a, d => ¬ F a ∧ Root H (OwnL (OwnAt C H F (k + 1))) a d
def refOf : V → Option Addr
  | .ref a => some a
  | _ => none
/-- the addresses right below a -/
def kids (H : Hp) (a : Addr) : List Addr :=
  match H a with
  | some (.lst xs) => xs.filterMap refOf
  | some (.dK kvs) => kvs.filterMap fun p => refOf p.2
  | some (.dT kvs) => kvs.filterMap fun p => refOf p.2
  | _ => []
/-- what the frame owns there -/
def owned (H : Hp) : Nat → Addr → List Addr
  | 0, _ => []
  | 1, a => [a]
  | k + 2, a => a :: (kids H a).flatMap (owned H (k + 1))
def ownS (H : Hp) : Slot → Option V → List Addr
  | .own k _, some (.ref a) => owned H k a
  | _, _ => []
def ownI (H : Hp) (ρ : Rho) (σ : L2.St) (i : Nat) : List Addr := ownS H (ρ.getD i .un) (σ.getD i none)

def SlotR (C : Ctx) (H : Hp) (F : Addr → Prop) : Slot → Option V → Prop
  | .un, _ => True
  | .sh d, x => ∃ v, x = some v ∧ D C H F v d
  | .own k d, x => ∃ a, x = some (.ref a) ∧ OwnAt C H F k a d
structure RelS (C : Ctx) (F : Addr → Prop) (H : Hp) (ρ : Rho) (σ : L2.St) : Prop where
  len : ρ.length = σ.length
  slot : ∀ i s, ρ[i]? = some s → SlotR C H F s (σ.getD i none)
  apart : ∀ i j b, b ∈ ownI H ρ σ i → b ∈ ownI H ρ σ j → i = j
  nodup : ∀ i, (ownI H ρ σ i).Nodup
  live : ∀ i b, b ∈ ownI H ρ σ i → ¬ F b ∧ ∃ o, H b = some o ∧ LD o
  dom : ∀ b, F b → ∃ o, H b = some o

section
variable {C : Ctx} {F F' : Addr → Prop} {H H' : Hp}
theorem Root.imp {R R' : List V → List T → Prop} {a : Addr} {d : T} (h : Root H R a d) (e : H' a = H a) (hr : ∀ xs ds, R xs ds → R' xs ds) : Root H' R' a d := by
  rcases h with ⟨xs, ds, e1, e2, r⟩ | ⟨xs, ds, e1, e2, r⟩ | ⟨xs, ds, e1, e2, r⟩
  · exact .inl ⟨xs, ds, e1, e.trans e2, hr _ _ r⟩
  · exact .inr (.inl ⟨xs, ds, e1, e.trans e2, hr _ _ r⟩)
  · exact .inr (.inr ⟨xs, ds, e1, e.trans e2, hr _ _ r⟩)
theorem Root.live {R : List V → List T → Prop} {a : Addr} {d : T} (h : Root H R a d) : ∃ o, H a = some o ∧ LD o := by
  rcases h with ⟨xs, ds, e1, e2, r⟩ | ⟨xs, ds, e1, e2, r⟩ | ⟨xs, ds, e1, e2, r⟩ <;> exact ⟨_, e2, trivial⟩
theorem OwnAt.root : ∀ {k : Nat} {a : Addr} {d : T}, OwnAt C H F k a d → ¬ F a ∧ ∃ o, H a = some o ∧ LD o
  | 0, _, _, h => h.elim
  | 1, _, _, h => ⟨h.1, h.2.live⟩
  | _ + 2, _, _, h => ⟨h.1, h.2.live⟩
theorem OwnL.imp {P P' : Addr → T → Prop} {vs : List V} {ds : List T} (h : OwnL P vs ds) (hp : ∀ a d, .ref a ∈ vs → P a d → P' a d) : OwnL P' vs ds := by
  induction h with
  | nil => exact .nil
  | cons h1 _ ih => exact .cons (hp _ _ List.mem_cons_self h1) (ih fun a d m => hp a d (List.mem_cons_of_mem _ m))
/-- nothing was written -/
theorem OwnAt.ext (hs : SrcStays C) (x : Ext F H F' H') : ∀ {k : Nat} {a : Addr} {d : T}, OwnAt C H F k a d → OwnAt C H' F' k a d
  | 0, _, _, h => h
  | 1, a, d, h => by
    obtain ⟨o, ho, _⟩ := h.2.live
    refine ⟨fun z => ?_, h.2.imp (by rw [x.same a o ho, ho]) fun xs ds r => r.later hs x.later⟩
    rcases x.new a z with q | ⟨q, _⟩
    · exact h.1 q
    · rw [ho] at q; cases q
  | k + 2, a, d, h => by
    obtain ⟨o, ho, _⟩ := h.2.live
    refine ⟨fun z => ?_, h.2.imp (by rw [x.same a o ho, ho]) fun xs ds r => r.imp fun b d _ q => OwnAt.ext hs x q⟩
    rcases x.new a z with q | ⟨q, _⟩
    · exact h.1 q
    · rw [ho] at q; cases q
theorem owned_ext (x : ∀ b o, H b = some o → LD o → H' b = some o) : ∀ (k : Nat) (a : Addr) (hl : ∀ b ∈ owned H k a, ∃ o, H b = some o ∧ LD o), owned H' k a = owned H k a
  | 0, _, _ => rfl
  | 1, _, _ => rfl
  | k + 2, a, hl => by
    obtain ⟨o, ho, lo⟩ := hl a List.mem_cons_self
    have e : kids H' a = kids H a := by unfold kids; rw [x a o ho lo, ho]
    show a :: (kids H' a).flatMap (owned H' (k + 1)) = a :: (kids H a).flatMap (owned H (k + 1))
    rw [e]
    congr 1
    have : ∀ l : List Addr, (∀ c ∈ l, ∀ b ∈ owned H (k + 1) c, ∃ o, H b = some o ∧ LD o) → l.flatMap (owned H' (k + 1)) = l.flatMap (owned H (k + 1)) := by
      intro l
      induction l with
      | nil => intro _; rfl
      | cons c l ih =>
        intro hc
        rw [List.flatMap_cons, List.flatMap_cons, owned_ext x (k + 1) c (hc c List.mem_cons_self), ih fun c' m => hc c' (List.mem_cons_of_mem _ m)]
    exact this _ fun c hc b hb => hl b (List.mem_cons_of_mem _ (List.mem_flatMap.mpr ⟨c, hc, hb⟩))
theorem ownI_ext {ρ : Rho} {σ : L2.St} (x : ∀ b o, H b = some o → LD o → H' b = some o) (i : Nat) (hl : ∀ b ∈ ownI H ρ σ i, ∃ o, H b = some o ∧ LD o) : ownI H' ρ σ i = ownI H ρ σ i := by
  unfold ownI ownS at *
  split at hl
  · exact owned_ext x _ _ hl
  · rfl
theorem SlotR.ext (hs : SrcStays C) (x : Ext F H F' H') {s : Slot} {v : Option V} (h : SlotR C H F s v) : SlotR C H' F' s v := by
  cases s with
  | un => trivial
  | sh d => obtain ⟨v, e, h⟩ := h; exact ⟨v, e, h.later hs x.later⟩
  | own k d => obtain ⟨a, e, h⟩ := h; exact ⟨a, e, h.ext hs x⟩
theorem RelS.ext {ρ : Rho} {σ : L2.St} (hs : SrcStays C) (x : Ext F H F' H') (r : RelS C F H ρ σ) : RelS C F' H' ρ σ := by
  have e : ∀ i, ownI H' ρ σ i = ownI H ρ σ i := fun i => ownI_ext (fun b o h _ => x.same b o h) i fun b hb => (r.live i b hb).2
  refine ⟨r.len, fun i s hi => (r.slot i s hi).ext hs x, fun i j b h1 h2 => r.apart i j b (by rwa [e] at h1) (by rwa [e] at h2), fun i => by rw [e]; exact r.nodup i, fun i b hb => ?_, fun b z => ?_⟩
  · rw [e] at hb
    obtain ⟨h1, o, ho, lo⟩ := r.live i b hb
    refine ⟨fun z => ?_, o, x.same b o ho, lo⟩
    rcases x.new b z with q | ⟨q, _⟩
    · exact h1 q
    · rw [ho] at q; cases q
  · rcases x.new b z with q | ⟨_, o, q⟩
    · obtain ⟨o, ho⟩ := r.dom b q
      exact ⟨o, x.same b o ho⟩
    · exact ⟨o, q⟩
theorem RelS.sh {ρ : Rho} {σ : L2.St} {i : Nat} {d : T} (r : RelS C F H ρ σ) (h : ρ[i]? = some (.sh d)) : ∃ v, σ[i]? = some (some v) ∧ D C H F v d := by
  obtain ⟨v, e, q⟩ := r.slot i _ h
  refine ⟨v, ?_, q⟩
  rw [List.getD_eq_getElem?_getD] at e
  cases h2 : σ[i]? with
  | none => rw [h2] at e; cases e
  | some x => rw [h2] at e; rw [show x = some v from e]
end

/-! ### the judgements -/
/-- an exception as trees: the name of its class, its fields -/
structure Ex where
  cls : Str
  fs : List (Str × T)
/-- a wish about exceptions at the slots -/
def ExR (C : Ctx) (F : Addr → Prop) (H : Hp) (cls : Value) (dx : Option Addr) (x : Ex) : Prop :=
  ∃ (c d : Addr) (fs : List (Str × V)), cls = .ref c ∧ C.mg x.cls = some (.ref c) ∧ dx = some d ∧ H d = some (.xd fs) ∧ fs.map (·.1) = x.fs.map (·.1) ∧ Ds C H F (fs.map (·.2)) (x.fs.map (·.2))

abbrev WE := Rho → (T → Prop) → (Ex → Prop) → Prop
abbrev WA := Rho → (List T → Prop) → (Ex → Prop) → Prop
abbrev WT := Rho → (Bool → Prop) → (Ex → Prop) → Prop

/-- what happens to an exception here -/
def ExOut (C : Ctx) (W : WX) (F : Addr → Prop) (H : Hp) (σ : L2.St) (Ev : Ex → Prop) : Prop :=
  ∀ cls dx F' H' x, Ext F H F' H' → ExR C F' H' cls dx x → Ev x → W cls dx σ H'
theorem ExOut.ext {C : Ctx} {W : WX} {F F' : Addr → Prop} {H H' : Hp} {σ : L2.St} {Ev : Ex → Prop} (h : ExOut C W F H σ Ev) (x : Ext F H F' H') : ExOut C W F' H' σ Ev :=
  fun cls dx F2 H2 e x2 r q => h cls dx F2 H2 e (x.trans x2) r q

def cE (C : Ctx) (W : WX) (w : WE) : TE := fun σ H Q => ∃ F ρ Qv Ev, RelS C F H ρ σ ∧ w ρ Qv Ev ∧ (∀ v d F' H', Ext F H F' H' → D C H' F' v d → Qv d → Q v H') ∧ ExOut C W F H σ Ev
/-- a new object of the frame's own -/
def cF (C : Ctx) (W : WX) (k : Nat) (w : WE) : TE := fun σ H Q => ∃ F ρ Qv Ev, RelS C F H ρ σ ∧ w ρ Qv Ev ∧
  (∀ a d F' H', Ext F H F' H' → OwnAt C H' F' k a d → (owned H' k a).Nodup → (∀ b ∈ owned H' k a, ¬ F' b ∧ H b = none ∧ ∃ o, H' b = some o ∧ LD o) → Qv d → Q (.ref a) H') ∧ ExOut C W F H σ Ev
def cA (C : Ctx) (W : WX) (w : WA) : TA := fun σ H Q => ∃ F ρ Qv Ev, RelS C F H ρ σ ∧ w ρ Qv Ev ∧ (∀ vs ds F' H', Ext F H F' H' → Ds C H' F' vs ds → Qv ds → Q vs H') ∧ ExOut C W F H σ Ev
def cT (C : Ctx) (W : WX) (w : WT) : TT := fun σ H Q => ∃ F ρ Qv Ev, RelS C F H ρ σ ∧ w ρ Qv Ev ∧ (∀ b F' H', Ext F H F' H' → Qv b → Q b H') ∧ ExOut C W F H σ Ev

theorem _root_.L2.PE.imp {X : Cx} {e : Expr} {t t' : TE} (h : PE X e t) (i : ∀ σ H Q, t' σ H Q → t σ H Q) : PE X e t' := ⟨fun pins s σ H Q I q => h.run pins s σ H Q I (i σ H Q q)⟩
theorem _root_.L2.PT.imp {X : Cx} {e : Expr} {t t' : TT} (h : PT X e t) (i : ∀ σ H Q, t' σ H Q → t σ H Q) : PT X e t' := ⟨fun pins s σ H Q I q => h.run pins s σ H Q I (i σ H Q q)⟩
theorem _root_.L2.PW.imp {X : Cx} {e : Expr} {t t' : TT} (h : PW X e t) (i : ∀ σ H Q, t' σ H Q → t σ H Q) : PW X e t' := ⟨fun wh pins s σ H Q I q => h.run wh pins s σ H Q I (i σ H Q q)⟩
theorem _root_.L2.PA.imp {X : Cx} {es : List Expr} {t t' : TA} (h : PA X es t) (i : ∀ σ H Q, t' σ H Q → t σ H Q) : PA X es t' := ⟨fun p pins s σ H Q I q => h.run p pins s σ H Q I (i σ H Q q)⟩
theorem _root_.L2.PS.imp {X : Cx} {e : Stmt} {t t' : TS} (h : PS X e t) (i : ∀ D σ H, t' D σ H → t D σ H) : PS X e t' := ⟨fun pins s σ H D I q => h.run pins s σ H D I (i D σ H q)⟩
theorem _root_.L2.PSs.imp {X : Cx} {e : List Stmt} {t t' : TS} (h : PSs X e t) (i : ∀ D σ H, t' D σ H → t D σ H) : PSs X e t' := ⟨fun pins s σ H D I q => h.run pins s σ H D I (i D σ H q)⟩

section
variable {X : Cx} {C : Ctx} {W : WX} {hs : SrcStays C} {a b e : Expr} {wa wb : WE} {es : List Expr} {ws : WA} {pos : Pos}

/-- a value that is known whatever the state -/
theorem ve_const {d : T} {v : V} (h : PE X e (tC v)) (r : ∀ H F, D C H F v d) : PE X e (cE C W fun _ Q _ => Q d) :=
  h.imp fun σ H Q ⟨F, ρ, Qv, Ev, _, q, k, _⟩ => k v d F H .refl (r H F) q
theorem ve_var {i : Nat} (h : PE X e (tVar i)) : PE X e (cE C W fun ρ Q _ => ∃ d, ρ[i]? = some (.sh d) ∧ Q d) :=
  h.imp fun σ H Q ⟨F, ρ, Qv, Ev, r, ⟨d, hd, q⟩, k, _⟩ => by
    obtain ⟨v, e, h⟩ := r.sh hd
    exact ⟨v, e, k v d F H .refl h q⟩

/-- an operation on values, by trees -/
def OpD (C : Ctx) (r : R2) (w : T → T → (T → Prop) → Prop) : Prop :=
  ∀ (F : Addr → Prop) (H : Hp) (x y : V) (d d' : T) (Qv : T → Prop) (Q : VK), D C H F x d → D C H F y d' → w d d' Qv → (∀ v d F' H', Ext F H F' H' → D C H' F' v d → Qv d → Q v H') → r x y H Q
theorem tOp_c {r : R2} {w : T → T → (T → Prop) → Prop} (hs : SrcStays C) (ho : OpD C r w) {σ : L2.St} {H : Hp} {Q : VK} (h : cE C W (fun ρ Q E => wa ρ (fun d => wb ρ (fun d' => w d d' Q) E) E) σ H Q) : tOp r (cE C W wa) (cE C W wb) σ H Q := by
  obtain ⟨F, ρ, Qv, Ev, rel, q, k, ex⟩ := h
  refine ⟨F, ρ, _, Ev, rel, q, fun v d F1 H1 x1 hd q1 => ?_, ex⟩
  refine ⟨F1, ρ, _, Ev, rel.ext hs x1, q1, fun v2 d2 F2 H2 x2 hd2 q2 => ?_, ex.ext x1⟩
  exact ho F2 H2 v v2 d d2 Qv Q (hd.later hs x2.later) hd2 q2 fun v3 d3 F3 H3 x3 hd3 q3 => k v3 d3 F3 H3 (x1.trans (x2.trans x3)) hd3 q3
theorem ve_bin {op : Operator} {r : R2} {w : T → T → (T → Prop) → Prop} (hs : SrcStays C) (hr : OpR X (binaryOp op) r) (ho : OpD C r w) (ha : PE X a (cE C W wa)) (hb : PE X b (cE C W wb)) :
    PE X (.BinOp a op b pos) (cE C W fun ρ Q E => wa ρ (fun d => wb ρ (fun d' => w d d' Q) E) E) :=
  (pe_op hr ha hb).imp fun _ _ _ h => tOp_c hs ho h
theorem ve_cmp {op : CmpOp} {r : R2} {w : T → T → (T → Prop) → Prop} (hs : SrcStays C) (hr : OpR X (compareOp op) r) (ho : OpD C r w) (ha : PE X a (cE C W wa)) (hb : PE X b (cE C W wb)) (hm : behindInMarks op b = false) :
    PE X (.Compare a [op] [b] pos) (cE C W fun ρ Q E => wa ρ (fun d => wb ρ (fun d' => w d d' Q) E) E) :=
  (pe_cmpR hr ha hb hm).imp fun _ _ _ h => tOp_c hs ho h
theorem ve_ix {r : R2} {w : T → T → (T → Prop) → Prop} (hs : SrcStays C) (hr : IxR X r) (ho : OpD C r w) (ha : PE X a (cE C W wa)) (hb : PE X b (cE C W wb)) (hx : PlainIx b) :
    PE X (.Subscript a b pos) (cE C W fun ρ Q E => wa ρ (fun d => wb ρ (fun d' => w d d' Q) E) E) :=
  (pe_ix hr ha hb hx).imp fun _ _ _ h => tOp_c hs ho h
def UnD (C : Ctx) (r : V → Hp → VK → Prop) (w : T → (T → Prop) → Prop) : Prop :=
  ∀ (F : Addr → Prop) (H : Hp) (x : V) (d : T) (Qv : T → Prop) (Q : VK), D C H F x d → w d Qv → (∀ v d F' H', Ext F H F' H' → D C H' F' v d → Qv d → Q v H') → r x H Q
theorem ve_un {op : UnaryOp} {r : V → Hp → VK → Prop} {w : T → (T → Prop) → Prop} (hr : UnR X (unaryOp op) r) (ho : UnD C r w) (ha : PE X a (cE C W wa)) :
    PE X (.UnaryOp op a pos) (cE C W fun ρ Q E => wa ρ (fun d => w d Q) E) :=
  (pe_un hr ha).imp fun σ H Q ⟨F, ρ, Qv, Ev, rel, q, k, ex⟩ => ⟨F, ρ, _, Ev, rel, q, fun v d F1 H1 x1 hd q1 => ho F1 H1 v d Qv Q hd q1 fun v2 d2 F2 H2 x2 hd2 q2 => k v2 d2 F2 H2 (x1.trans x2) hd2 q2, ex⟩

/-! ### argument lists, displays -/
theorem va_nil : PA X [] (cA C W fun _ Q _ => Q []) := pa_nil.imp fun σ H Q ⟨F, ρ, Qv, Ev, rel, q, k, ex⟩ => k [] [] F H .refl .nil q
theorem va_cons (hs : SrcStays C) (ha : PE X e (cE C W wa)) (hr : PA X es (cA C W ws)) (h1 : starEach (e :: es) X.env = (false, eval e X.env) :: starEach es X.env) :
    PA X (e :: es) (cA C W fun ρ Q E => wa ρ (fun d => ws ρ (fun ds => Q (d :: ds)) E) E) :=
  (pa_cons ha hr h1).imp fun σ H Q ⟨F, ρ, Qv, Ev, rel, q, k, ex⟩ => ⟨F, ρ, _, Ev, rel, q, fun v d F1 H1 x1 hd q1 =>
    ⟨F1, ρ, _, Ev, rel.ext hs x1, q1, fun vs ds F2 H2 x2 hds q2 => k _ _ F2 H2 (x1.trans x2) (.cons (hd.later hs x2.later) hds) q2, ex.ext x1⟩, ex⟩
theorem Ext.new_tup {F : Addr → Prop} {H : Hp} {p : Addr} {o : HO} (h : H p = none) : Ext F H F (upd H p o) := ⟨fun b u e => by rw [upd_ne (ne_of_none e h)]; exact e, fun _ z => z, fun _ z => .inl z⟩
theorem Ext.new_fz {F : Addr → Prop} {H : Hp} {p : Addr} {o : HO} (h : H p = none) : Ext F H (fun b => F b ∨ b = p) (upd H p o) :=
  ⟨fun b u e => by rw [upd_ne (ne_of_none e h)]; exact e, fun _ z => .inl z, fun b z => z.imp id fun e => by rw [e]; exact ⟨h, o, upd_same⟩⟩
theorem ve_tup {k : Nat} (hs : SrcStays C) (h : PA X es (cA C W ws)) : PE X (.Tuple es k pos) (cE C W fun ρ Q E => ws ρ (fun ds => ds.length ≤ sizeLine ∧ Q (.tup ds)) E) :=
  (pe_tup h).imp fun σ H Q ⟨F, ρ, Qv, Ev, rel, q, k, ex⟩ => ⟨F, ρ, _, Ev, rel, q, fun vs ds F1 H1 x1 hds q1 =>
    ⟨by rw [hds.length]; exact q1.1, fun p hp => k _ _ F1 _ (x1.trans (.new_tup hp)) (.tup (.of upd_same) (hds.later hs (Ext.new_tup hp).later)) q1.2⟩, ex⟩
theorem ve_lst (hs : SrcStays C) (h : PA X es (cA C W ws)) : PE X (.List es pos) (cE C W fun ρ Q E => ws ρ (fun ds => ds.length ≤ sizeLine ∧ Q (.lst ds)) E) :=
  (pe_lst h).imp fun σ H Q ⟨F, ρ, Qv, Ev, rel, q, k, ex⟩ => ⟨F, ρ, _, Ev, rel, q, fun vs ds F1 H1 x1 hds q1 =>
    ⟨by rw [hds.length]; exact q1.1, fun p hp => k _ _ _ _ (x1.trans (.new_fz hp)) (.lst upd_same (.inr rfl) (hds.later hs (Ext.new_fz hp).later)) q1.2⟩, ex⟩
/-- a new list, as the frame's own -/
theorem own_new {F : Addr → Prop} {H : Hp} {p : Addr} {xs : List V} {ds : List T} (hs : SrcStays C) (hp : H p = none) (hf : ¬ F p) (h : Ds C H F xs ds) : OwnAt C (upd H p (.lst xs)) F 1 p (.lst ds) :=
  ⟨hf, .inl ⟨xs, ds, rfl, upd_same, h.later hs (Ext.new_tup hp).later⟩⟩
end
end L3

/-! L3c: operations on trees. -/
namespace L3
open PySem PySem.Spec PyProof.Rows L2

/-! ### trees as plain data -/
mutual
def toPy : T → PyData
  | .non => .none
  | .bl b => .bool b
  | .int i => .int i
  | .str x => .str x
  | .lst xs => .list (toPys xs)
  | .tup xs => .tuple (toPys xs)
  | .dct _ => .none
  | .fn _ => .none
  | .src _ _ => .none
  | .ex _ => .none
def toPys : List T → List PyData
  | [] => []
  | x :: xs => toPy x :: toPys xs
end
theorem toPys_map : ∀ xs : List T, toPys xs = xs.map toPy
  | [] => rfl
  | x :: xs => by rw [toPys, List.map_cons, toPys_map xs]
/-- plain data at most n deep -/
def okD : Nat → T → Bool
  | _, .non => true
  | _, .bl _ => true
  | _, .int _ => true
  | _, .str x => PyData.strOk x
  | n + 1, .lst xs => xs.all (okD n)
  | n + 1, .tup xs => xs.all (okD n)
  | _, _ => false
theorem okD_mono : ∀ {n m : Nat} {d : T}, okD n d = true → n ≤ m → okD m d = true
  | _, _, .non, _, _ => by simp [okD]
  | _, _, .bl _, _, _ => by simp [okD]
  | _, _, .int _, _, _ => by simp [okD]
  | n, m, .str x, h, _ => by
    have : PyData.strOk x = true := by cases n <;> exact h
    cases m <;> exact this
  | 0, _, .lst xs, h, _ => by simp [okD] at h
  | n + 1, 0, .lst xs, _, h => by omega
  | n + 1, m + 1, .lst xs, h, hm => by
    have h' : ∀ x ∈ xs, okD n x = true := List.all_eq_true.mp h
    exact List.all_eq_true.mpr fun x hx => okD_mono (h' x hx) (by omega)
  | 0, _, .tup xs, h, _ => by simp [okD] at h
  | n + 1, 0, .tup xs, _, h => by omega
  | n + 1, m + 1, .tup xs, h, hm => by
    have h' : ∀ x ∈ xs, okD n x = true := List.all_eq_true.mp h
    exact List.all_eq_true.mpr fun x hx => okD_mono (h' x hx) (by omega)
  | n, _, .dct _, h, _ => by cases n <;> simp [okD] at h
  | n, _, .fn _, h, _ => by cases n <;> simp [okD] at h
  | n, _, .src _ _, h, _ => by cases n <;> simp [okD] at h
  | n, _, .ex _, h, _ => by cases n <;> simp [okD] at h
theorem canLay_all : ∀ {ds : List PyData}, (∀ d ∈ ds, d.canLay0 = true) → PyData.canLayAll0 ds = true
  | [], _ => rfl
  | d :: ds, h => by
    simp only [PyData.canLayAll0, Bool.and_eq_true]
    exact ⟨h d List.mem_cons_self, canLay_all fun e he => h e (List.mem_cons_of_mem _ he)⟩
theorem depth_all {n : Nat} : ∀ {ds : List PyData}, (∀ d ∈ ds, d.depth ≤ n) → PyData.depthAll ds ≤ n
  | [], _ => Nat.zero_le _
  | d :: ds, h => by
    simp only [PyData.depthAll]
    exact Nat.max_le.mpr ⟨h d List.mem_cons_self, depth_all fun e he => h e (List.mem_cons_of_mem _ he)⟩
theorem okD_lay : ∀ {n : Nat} {d : T}, okD n d = true → (toPy d).canLay0 = true ∧ (toPy d).depth ≤ n
  | _, .non, _ => ⟨rfl, Nat.zero_le _⟩
  | _, .bl _, _ => ⟨rfl, Nat.zero_le _⟩
  | _, .int _, _ => ⟨rfl, Nat.zero_le _⟩
  | n, .str x, h => ⟨by
    have : PyData.strOk x = true := by cases n <;> exact h
    simpa [toPy, PyData.canLay0] using this, Nat.zero_le _⟩
  | 0, .lst xs, h => by simp [okD] at h
  | n + 1, .lst xs, h => by
    have h' : ∀ x ∈ xs, okD n x = true := List.all_eq_true.mp h
    refine ⟨?_, ?_⟩
    · rw [toPy, toPys_map]
      exact canLay_all fun d hd => by
        obtain ⟨x, hx, rfl⟩ := List.mem_map.mp hd
        exact (okD_lay (h' x hx)).1
    · rw [toPy, toPys_map]
      show PyData.depthAll _ + 1 ≤ n + 1
      exact Nat.succ_le_succ (depth_all fun d hd => by
        obtain ⟨x, hx, rfl⟩ := List.mem_map.mp hd
        exact (okD_lay (h' x hx)).2)
  | 0, .tup xs, h => by simp [okD] at h
  | n + 1, .tup xs, h => by
    have h' : ∀ x ∈ xs, okD n x = true := List.all_eq_true.mp h
    refine ⟨?_, ?_⟩
    · rw [toPy, toPys_map]
      exact canLay_all fun d hd => by
        obtain ⟨x, hx, rfl⟩ := List.mem_map.mp hd
        exact (okD_lay (h' x hx)).1
    · rw [toPy, toPys_map]
      show PyData.depthAll _ + 1 ≤ n + 1
      exact Nat.succ_le_succ (depth_all fun d hd => by
        obtain ⟨x, hx, rfl⟩ := List.mem_map.mp hd
        exact (okD_lay (h' x hx)).2)
  | n, .dct _, h => by cases n <;> simp [okD] at h
  | n, .fn _, h => by cases n <;> simp [okD] at h
  | n, .src _ _, h => by cases n <;> simp [okD] at h
  | n, .ex _, h => by cases n <;> simp [okD] at h
theorem okD_shaped {n : Nat} {d : T} (h : okD n d = true) (hn : n ≤ 64) : SeqAt.shaped (toPy d) = true := by
  obtain ⟨h1, h2⟩ := okD_lay h
  unfold SeqAt.shaped
  rw [h1, Bool.true_and]
  exact decide_eq_true (Nat.le_trans h2 hn)
section
variable {C : Ctx} {F : Addr → Prop} {H : Hp}
theorem dpAll_of {n : Nat} (ih : ∀ d v, okD n d = true → D C H F v d → Dp C.K H v (toPy d)) : ∀ (ds : List T) (vs : List V), (∀ d ∈ ds, okD n d = true) → Ds C H F vs ds → DpAll C.K H vs (ds.map toPy)
  | [], _, _, h => by cases h; exact .nil
  | d :: ds, _, ho, h => by
    cases h with
    | cons h1 h2 => exact .cons (ih d _ (ho d List.mem_cons_self) h1) (dpAll_of ih ds _ (fun e he => ho e (List.mem_cons_of_mem _ he)) h2)
theorem D.dp : ∀ {n : Nat} {d : T} {v : V}, okD n d = true → D C H F v d → Dp C.K H v (toPy d)
  | _, .non, _, _, h => by cases h; exact .non
  | _, .bl b, _, _, h => by cases h; exact .bl b
  | _, .int i, _, _, h => by cases h; exact .int i
  | _, .str x, _, _, h => by cases h; exact .str x
  | 0, .lst xs, _, h, _ => by simp [okD] at h
  | n + 1, .lst xs, v, ho, h => by
    have h' : ∀ x ∈ xs, okD n x = true := List.all_eq_true.mp ho
    rw [toPy, toPys_map]
    obtain ⟨a, rfl⟩ := h.lref
    obtain ⟨ys, h1, h2⟩ := h.sql
    exact .lst h1 (dpAll_of (fun d v q w => D.dp q w) xs ys h' h2)
  | 0, .tup xs, _, h, _ => by simp [okD] at h
  | n + 1, .tup xs, v, ho, h => by
    have h' : ∀ x ∈ xs, okD n x = true := List.all_eq_true.mp ho
    rw [toPy, toPys_map]
    obtain ⟨a, rfl⟩ := h.tref
    obtain ⟨ys, h1, h2⟩ := h.sqt
    exact .tup h1 (dpAll_of (fun d v q w => D.dp q w) xs ys h' h2)
  | n, .dct _, _, h, _ => by cases n <;> simp [okD] at h
  | n, .fn _, _, h, _ => by cases n <;> simp [okD] at h
  | n, .src _ _, _, h, _ => by cases n <;> simp [okD] at h
  | n, .ex _, _, h, _ => by cases n <;> simp [okD] at h
end

/-- == of trees -/
def eqT (a b : T) : Bool := PyData.eqv (toPy a) (toPy b)
def okB (d : T) : Bool := okD 60 d

/-! ### the operations -/
section
variable {C : Ctx} {F : Addr → Prop} {H : Hp}
theorem D.isL {v : V} {ds : List T} (h : D C H F v (.lst ds)) : ∃ a xs, v = .ref a ∧ H a = some (.lst xs) ∧ F a ∧ Ds C H F xs ds := by
  cases h with
  | lst h1 h2 h3 => exact ⟨_, _, rfl, h1, h2, h3⟩
theorem D.isT {v : V} {ds : List T} (h : D C H F v (.tup ds)) : ∃ a xs, v = .ref a ∧ SqT C.K H a xs ∧ Ds C H F xs ds := by
  cases h with
  | tup h1 h2 => exact ⟨_, _, rfl, h1, h2⟩
end

def wAdd (d d' : T) (Q : T → Prop) : Prop :=
  match d, d' with
  | .int i, .int j => Q (.int (i + j))
  | .str x, .str y => x.length + y.length ≤ sizeLine ∧ Q (.str (x ++ y))
  | .lst xs, .lst ys => xs.length + ys.length ≤ sizeLine ∧ Q (.lst (xs ++ ys))
  | .tup xs, .tup ys => xs.length + ys.length ≤ sizeLine ∧ Q (.tup (xs ++ ys))
  | _, _ => False
abbrev rAddI : R2 := rI0 fun i j => .int (i + j)
abbrev rAddS : R2 := fun x y H Q => ∃ i j, x = .str i ∧ y = .str j ∧ i.length + j.length ≤ sizeLine ∧ Q (.str (i ++ j)) H
abbrev rAddA (K : PySem.W.Frag) : R2 := fun x y H Q => rAddI x y H Q ∨ (rAddS x y H Q ∨ (rCat x y H Q ∨ rCatA K x y H Q))
theorem or_add {X : Cx} : OpR X (binaryOp .Add) (rAddA X.K) := op_add.or (op_add_str.or (op_cat.or op_catA))
theorem od_add {C : Ctx} (hs : SrcStays C) : OpD C (rAddA C.K) wAdd := by
  intro F H x y d d' Qv Q hd hd' hw k
  unfold wAdd at hw
  split at hw
  · rw [hd.int_eq, hd'.int_eq]
    exact .inl ⟨_, _, rfl, rfl, k _ _ F H .refl (.int _) hw⟩
  · rw [hd.str_eq, hd'.str_eq]
    exact .inr (.inl ⟨_, _, rfl, rfl, hw.1, k _ _ F H .refl (.str _) hw.2⟩)
  · obtain ⟨a, xs, rfl, ha, fa, hx⟩ := hd.isL
    obtain ⟨b, ys, rfl, hb, fb, hy⟩ := hd'.isL
    refine .inr (.inr (.inl ⟨a, b, xs, ys, rfl, rfl, ha, hb, by rw [hx.length, hy.length]; exact hw.1, fun p hp => ?_⟩))
    exact k _ _ _ _ (.new_fz hp) (.lst upd_same (.inr rfl) ((hx.append hy).later hs (Ext.new_fz hp).later)) hw.2
  · obtain ⟨a, xs, rfl, ha, hx⟩ := hd.isT
    obtain ⟨b, ys, rfl, hb, hy⟩ := hd'.isT
    refine .inr (.inr (.inr ⟨a, b, xs, ys, rfl, rfl, ha, hb, by rw [hx.length, hy.length]; exact hw.1, fun e => ?_, fun _ e => ?_, fun _ _ p hp => ?_⟩))
    · subst e
      cases hx
      exact k _ _ F H .refl hd' hw.2
    · subst e
      cases hy
      exact k _ _ F H .refl hd (by rw [List.append_nil] at hw; exact hw.2)
    · exact k _ _ _ _ (.new_tup hp) (.tup (.of upd_same) ((hx.append hy).later hs (Ext.new_tup (F := F) hp).later)) hw.2
  · exact hw.elim

def wSub (d d' : T) (Q : T → Prop) : Prop :=
  match d, d' with
  | .int i, .int j => Q (.int (i - j))
  | _, _ => False
theorem od_sub {C : Ctx} : OpD C (rI0 fun i j => .int (i - j)) wSub := by
  intro F H x y d d' Qv Q hd hd' hw k
  unfold wSub at hw
  split at hw
  · rw [hd.int_eq, hd'.int_eq]
    exact ⟨_, _, rfl, rfl, k _ _ F H .refl (.int _) hw⟩
  · exact hw.elim
/-- n times a list's items -/
def timesT (n : Int) (xs : List T) : List T := (List.replicate n.toNat xs).flatten
def wMul (d d' : T) (Q : T → Prop) : Prop :=
  match d, d' with
  | .int i, .int j => CMulW i j ∧ Q (.int (i * j))
  | .lst xs, .int k => (-(2 ^ 63) ≤ k ∧ k < 2 ^ 63 ∧ xs.length * k.toNat ≤ sizeLine) ∧ Q (.lst (timesT k xs))
  | _, _ => False
abbrev rMulA : R2 := fun x y H Q => rI CMulW (fun i j => .int (i * j)) x y H Q ∨ rRep x y H Q
theorem or_mul {X : Cx} : OpR X (binaryOp .Mult) rMulA := op_mulW.or op_rep
theorem Ds.rep {C : Ctx} {F : Addr → Prop} {H : Hp} {xs : List V} {ds : List T} (h : Ds C H F xs ds) : ∀ n : Nat, Ds C H F (List.replicate n xs).flatten (List.replicate n ds).flatten
  | 0 => .nil
  | n + 1 => by
    rw [List.replicate_succ, List.replicate_succ, List.flatten_cons, List.flatten_cons]
    exact h.append (h.rep n)
theorem od_mul {C : Ctx} (hs : SrcStays C) : OpD C rMulA wMul := by
  intro F H x y d d' Qv Q hd hd' hw k
  unfold wMul at hw
  split at hw
  · rw [hd.int_eq, hd'.int_eq]
    exact .inl ⟨_, _, rfl, rfl, hw.1, k _ _ F H .refl (.int _) hw.2⟩
  · obtain ⟨a, xs, rfl, ha, fa, hx⟩ := hd.isL
    rw [hd'.int_eq]
    refine .inr ⟨a, _, xs, rfl, rfl, ha, hw.1.1, hw.1.2.1, by rw [hx.length]; exact hw.1.2.2, fun p hp => ?_⟩
    exact k _ _ _ _ (.new_fz hp) (.lst upd_same (.inr rfl) ((hx.rep _).later hs (Ext.new_fz hp).later)) hw.2
  · exact hw.elim
def wFdv (d d' : T) (Q : T → Prop) : Prop :=
  match d, d' with
  | .int i, .int j => CDivW i j ∧ Q (.int (i / j))
  | _, _ => False
theorem od_fdv {C : Ctx} : OpD C (rI CDivW fun i j => .int (i / j)) wFdv := by
  intro F H x y d d' Qv Q hd hd' hw k
  unfold wFdv at hw
  split at hw
  · rw [hd.int_eq, hd'.int_eq]
    exact ⟨_, _, rfl, rfl, hw.1, k _ _ F H .refl (.int _) hw.2⟩
  · exact hw.elim
def wMod (d d' : T) (Q : T → Prop) : Prop :=
  match d, d' with
  | .int i, .int j => 0 < j ∧ Q (.int (i % j))
  | _, _ => False
theorem od_mod {C : Ctx} : OpD C (rI (fun _ j => 0 < j) fun i j => .int (i % j)) wMod := by
  intro F H x y d d' Qv Q hd hd' hw k
  unfold wMod at hw
  split at hw
  · rw [hd.int_eq, hd'.int_eq]
    exact ⟨_, _, rfl, rfl, hw.1, k _ _ F H .refl (.int _) hw.2⟩
  · exact hw.elim
def wPow (d d' : T) (Q : T → Prop) : Prop :=
  match d, d' with
  | .int i, .int j => CPow i j ∧ Q (.int (i ^ j.toNat))
  | _, _ => False
theorem od_pow {C : Ctx} : OpD C (rI CPow fun i j => .int (i ^ j.toNat)) wPow := by
  intro F H x y d d' Qv Q hd hd' hw k
  unfold wPow at hw
  split at hw
  · rw [hd.int_eq, hd'.int_eq]
    exact ⟨_, _, rfl, rfl, hw.1, k _ _ F H .refl (.int _) hw.2⟩
  · exact hw.elim
def wNeg (d : T) (Q : T → Prop) : Prop :=
  match d with
  | .int i => Q (.int (-i))
  | _ => False
theorem ud_neg {C : Ctx} : UnD C (rU fun i => .int (-i)) wNeg := by
  intro F H x d Qv Q hd hw k
  unfold wNeg at hw
  split at hw
  · rw [hd.int_eq]
    exact ⟨_, rfl, k _ _ F H .refl (.int _) hw⟩
  · exact hw.elim

/-! ### comparisons -/
def wCmp (f : Int → Int → Bool) (d d' : T) (Q : T → Prop) : Prop :=
  match d, d' with
  | .int i, .int j => Q (.bl (f i j))
  | _, _ => False
theorem od_cmp {C : Ctx} {f : Int → Int → Bool} : OpD C (rI0 fun i j => .bl (f i j)) (wCmp f) := by
  intro F H x y d d' Qv Q hd hd' hw k
  unfold wCmp at hw
  split at hw
  · rw [hd.int_eq, hd'.int_eq]
    exact ⟨_, _, rfl, rfl, k _ _ F H .refl (.bl _) hw⟩
  · exact hw.elim
/-- two texts, or plain data that is not deep -/
def okE : T → T → Bool
  | .str _, .str _ => true
  | d, d' => okB d && okB d'
def wEq (neg : Bool) (d d' : T) (Q : T → Prop) : Prop := okE d d' = true ∧ Q (.bl (eqT d d' != neg))
theorem okE_cases {d d' : T} (h : okE d d' = true) : (∃ x y, d = .str x ∧ d' = .str y) ∨ (okB d = true ∧ okB d' = true) := by
  unfold okE at h
  split at h
  · exact .inl ⟨_, _, rfl, rfl⟩
  · rw [Bool.and_eq_true] at h
    exact .inr h
theorem okE_of {d d' : T} (h : okB d = true) (h' : okB d' = true) : okE d d' = true := by
  unfold okE
  split
  · rfl
  · rw [h, h']; rfl
theorem eqT_str {x y : Str} : eqT (.str x) (.str y) = decide (x = y) := by
  unfold eqT
  simp only [toPy, PyData.eqv]
  by_cases h : x = y <;> simp [h]
def rEqA (K : PySem.W.Frag) : R2 := fun x y H Q => rEqD K x y H Q ∨ rEq x y H Q
def rNeA (K : PySem.W.Frag) : R2 := fun x y H Q => rNeD K x y H Q ∨ rNe x y H Q
theorem od_eq {C : Ctx} : OpD C (rEqA C.K) (wEq false) := by
  intro F H x y d d' Qv Q hd hd' hw k
  obtain ⟨h, q⟩ := hw
  rcases okE_cases h with ⟨a, b, rfl, rfl⟩ | ⟨h1, h2⟩
  · rw [hd.str_eq, hd'.str_eq]
    refine .inr ⟨by trivial, k _ _ F H .refl (.bl _) ?_⟩
    rw [eqT_str] at q
    simpa using q
  · refine .inl ⟨toPy d, toPy d', hd.dp h1, hd'.dp h2, okD_shaped h1 (by decide), okD_shaped h2 (by decide), k _ _ F H .refl (.bl _) ?_⟩
    simpa [eqT] using q
theorem od_ne {C : Ctx} : OpD C (rNeA C.K) (wEq true) := by
  intro F H x y d d' Qv Q hd hd' hw k
  obtain ⟨h, q⟩ := hw
  rcases okE_cases h with ⟨a, b, rfl, rfl⟩ | ⟨h1, h2⟩
  · rw [hd.str_eq, hd'.str_eq]
    refine .inr ⟨by trivial, k _ _ F H .refl (.bl _) ?_⟩
    rw [eqT_str] at q
    simpa using q
  · refine .inl ⟨toPy d, toPy d', hd.dp h1, hd'.dp h2, okD_shaped h1 (by decide), okD_shaped h2 (by decide), k _ _ F H .refl (.bl _) ?_⟩
    simpa [eqT] using q
/-- whether one of a list's items equals d -/
def inT (d : T) (xs : List T) : Bool := xs.any fun z => eqT z d
def wIn (neg : Bool) (d d' : T) (Q : T → Prop) : Prop :=
  match d' with
  | .lst xs => okB d = true ∧ okB d' = true ∧ Q (.bl (inT d xs != neg))
  | .tup xs => okB d = true ∧ okB d' = true ∧ Q (.bl (inT d xs != neg))
  | _ => False
theorem inT_py (d : T) (xs : List T) : ((toPys xs).any fun z => PyData.eqv z (toPy d)) = inT d xs := by
  rw [toPys_map, List.any_map]
  rfl
def rInT (K : PySem.W.Frag) (neg : Bool) : R2 := fun x y H Q => ∃ d ds, Dp K H x d ∧ Dp K H y (.tuple ds) ∧ SeqAt.shaped d = true ∧ SeqAt.shaped (.tuple ds) = true ∧ Q (.bl ((ds.any fun z => PyData.eqv z d) != neg)) H
theorem op_inT {X : Cx} (hu : X.A.units + 65 < cLine) : OpR X (compareOp .In) (rInT X.K false) := by
  intro pins s σ H x y v u Q I rx ry h
  obtain ⟨d, ds, hd, he, sd, se, q⟩ := h
  obtain ⟨as, r1⟩ := Dp.reads I d x v hd rx
  obtain ⟨bs, r2⟩ := Dp.reads I (.tuple ds) y u he ry
  exact SeqAt.in_tuple_reads r2 r1 (SeqAt.canLay_of_shaped se) (SeqAt.canLay_of_shaped sd) (room_in_shaped sd hu) ⟨.bl _, H, I, rfl, by simpa using q⟩
theorem op_notInT {X : Cx} (hu : X.A.units + 65 < cLine) : OpR X (compareOp .NotIn) (rInT X.K true) := by
  intro pins s σ H x y v u Q I rx ry h
  obtain ⟨d, ds, hd, he, sd, se, q⟩ := h
  obtain ⟨as, r1⟩ := Dp.reads I d x v hd rx
  obtain ⟨bs, r2⟩ := Dp.reads I (.tuple ds) y u he ry
  exact SeqAt.notIn_tuple_reads r2 r1 (SeqAt.canLay_of_shaped se) (SeqAt.canLay_of_shaped sd) (room_in_shaped sd hu) ⟨.bl _, H, I, rfl, by simpa using q⟩
theorem od_in {C : Ctx} : OpD C (fun x y H Q => rInD C.K x y H Q ∨ rInT C.K false x y H Q) (wIn false) := by
  intro F H x y d d' Qv Q hd hd' hw k
  unfold wIn at hw
  split at hw
  · rename_i xs
    obtain ⟨h1, h2, q⟩ := hw
    have e := hd'.dp h2
    rw [toPy] at e
    have s2 := okD_shaped h2 (by decide)
    rw [toPy] at s2
    refine .inl ⟨toPy d, toPys xs, hd.dp h1, e, okD_shaped h1 (by decide), s2, k _ _ F H .refl (.bl _) ?_⟩
    rw [inT_py]
    simpa using q
  · rename_i xs
    obtain ⟨h1, h2, q⟩ := hw
    have e := hd'.dp h2
    rw [toPy] at e
    have s2 := okD_shaped h2 (by decide)
    rw [toPy] at s2
    refine .inr ⟨toPy d, toPys xs, hd.dp h1, e, okD_shaped h1 (by decide), s2, k _ _ F H .refl (.bl _) ?_⟩
    rw [inT_py]
    simpa using q
  · exact hw.elim
theorem od_notIn {C : Ctx} : OpD C (fun x y H Q => rNotInD C.K x y H Q ∨ rInT C.K true x y H Q) (wIn true) := by
  intro F H x y d d' Qv Q hd hd' hw k
  unfold wIn at hw
  split at hw
  · rename_i xs
    obtain ⟨h1, h2, q⟩ := hw
    have e := hd'.dp h2
    rw [toPy] at e
    have s2 := okD_shaped h2 (by decide)
    rw [toPy] at s2
    refine .inl ⟨toPy d, toPys xs, hd.dp h1, e, okD_shaped h1 (by decide), s2, k _ _ F H .refl (.bl _) ?_⟩
    rw [inT_py]
    simpa using q
  · rename_i xs
    obtain ⟨h1, h2, q⟩ := hw
    have e := hd'.dp h2
    rw [toPy] at e
    have s2 := okD_shaped h2 (by decide)
    rw [toPy] at s2
    refine .inr ⟨toPy d, toPys xs, hd.dp h1, e, okD_shaped h1 (by decide), s2, k _ _ F H .refl (.bl _) ?_⟩
    rw [inT_py]
    simpa using q
  · exact hw.elim

/-! ### subscripts, slices -/
def wIx (d d' : T) (Q : T → Prop) : Prop :=
  match d, d' with
  | .lst xs, .int i => ∃ x, atI xs i = some x ∧ Q x
  | .tup xs, .int i => ∃ x, atI xs i = some x ∧ Q x
  | .str z, .int i => ∃ c, z.length ≤ sizeLine ∧ atI z.cps.toList i = some c ∧ Q (.str ⟨#[c]⟩)
  | _, _ => False
theorem Ds.atI {C : Ctx} {F : Addr → Prop} {H : Hp} {xs : List V} {ds : List T} {i : Int} {d : T} (h : Ds C H F xs ds) (e : L2.atI ds i = some d) : ∃ v, L2.atI xs i = some v ∧ D C H F v d := by
  unfold L2.atI at *
  rw [h.length]
  cases q : ixN ds.length i with
  | none => rw [q] at e; cases e
  | some j =>
    rw [q] at e
    exact h.get e
theorem od_ix {C : Ctx} : OpD C (rIx C.K) wIx := by
  intro F H x y d d' Qv Q hd hd' hw k
  unfold wIx at hw
  split at hw
  · obtain ⟨e, he, q⟩ := hw
    obtain ⟨a, xs, rfl, ha, fa, hx⟩ := hd.isL
    obtain ⟨v, hv, dv⟩ := hx.atI he
    rw [hd'.int_eq]
    exact .inl ⟨a, xs, _, v, rfl, rfl, .of ha, hv, k _ _ F H .refl dv q⟩
  · obtain ⟨e, he, q⟩ := hw
    obtain ⟨a, xs, rfl, ha, hx⟩ := hd.isT
    obtain ⟨v, hv, dv⟩ := hx.atI he
    rw [hd'.int_eq]
    exact .inr (.inl ⟨a, xs, _, v, rfl, rfl, ha, hv, k _ _ F H .refl dv q⟩)
  · obtain ⟨c, hz, he, q⟩ := hw
    rw [hd.str_eq, hd'.int_eq]
    exact .inr (.inr ⟨_, _, c, rfl, rfl, hz, he, k _ _ F H .refl (.str _) q⟩)
  · exact hw.elim
/-- the items of xs[lo:hi] -/
def cutT (xs : List T) (lo hi : Option Int) : List T := (xs.drop (HT.sIx xs.length 0 lo)).take (HT.sIx xs.length xs.length hi - HT.sIx xs.length 0 lo)
theorem Ds.cut {C : Ctx} {F : Addr → Prop} {H : Hp} {xs : List V} {ds : List T} (h : Ds C H F xs ds) (lo hi : Option Int) : Ds C H F (cutV xs lo hi) (cutT ds lo hi) := by
  unfold cutV cutT
  rw [h.length]
  exact (h.drop _).take _
theorem cutT_whole {xs : List T} {lo hi : Option Int} (h : HT.sIx xs.length 0 lo = 0 ∧ HT.sIx xs.length xs.length hi = xs.length) : cutT xs lo hi = xs := by
  unfold cutT
  rw [h.1, h.2, List.drop_zero, Nat.sub_zero, List.take_length]
def wSl (d : T) (lo hi : Option Int) (Q : T → Prop) : Prop :=
  match d with
  | .lst xs => Q (.lst (cutT xs lo hi))
  | .tup xs => Q (.tup (cutT xs lo hi))
  | .str z => z.length ≤ sizeLine ∧ Q (.str (cutS z lo hi))
  | _ => False
abbrev rSlAll (K : PySem.W.Frag) : V → Option Int → Option Int → Hp → VK → Prop := fun x lo hi H Q => rSlL K x lo hi H Q ∨ (rSlA K x lo hi H Q ∨ rSlS x lo hi H Q)
theorem sl_all {X : Cx} : SlR X (rSlAll X.K) := sl_list.or (sl_tupA.or sl_str)
/-- a part of a slice: left out, or a number -/
abbrev WO := Rho → (Option Int → Prop) → (Ex → Prop) → Prop
def cO (C : Ctx) (W : WX) (w : WO) : TO := fun σ H Q => ∃ F ρ Qv Ev, RelS C F H ρ σ ∧ w ρ Qv Ev ∧ (∀ o F' H', Ext F H F' H' → Qv o → Q o H') ∧ ExOut C W F H σ Ev
section
variable {X : Cx} {C : Ctx} {W : WX} {e : Expr} {wa : WE} {lo hi : Option Expr} {wl wh : WO} {pos p2 : Pos}
theorem vo_none : PO X none (cO C W fun _ Q _ => Q none) := ⟨fun pins s σ H Q I ⟨F, ρ, Qv, Ev, rel, q, k, _⟩ => po_none.run pins s σ H Q I (k none F H .refl q)⟩
theorem vo_some (h : PE X e (cE C W wa)) : PO X (some e) (cO C W fun ρ Q E => wa ρ (fun d => ∃ i, d = .int i ∧ Q (some i)) E) :=
  ⟨fun pins s σ H Q I ⟨F, ρ, Qv, Ev, rel, q, k, ex⟩ => (po_some h).run pins s σ H Q I ⟨F, ρ, _, Ev, rel, q, fun v d F1 H1 x1 hd ⟨i, e, q1⟩ => by
    subst e
    exact ⟨i, hd.int_eq, k (some i) F1 H1 x1 q1⟩, ex⟩⟩
theorem sl_d (hs : SrcStays C) {F : Addr → Prop} {H : Hp} {x : V} {d : T} {lo hi : Option Int} {Qv : T → Prop} {Q : VK} (hd : D C H F x d) (hw : wSl d lo hi Qv) (k : ∀ v d F' H', Ext F H F' H' → D C H' F' v d → Qv d → Q v H') : rSlAll C.K x lo hi H Q := by
  unfold wSl at hw
  split at hw
  · obtain ⟨a, xs, rfl, ha, fa, hx⟩ := hd.isL
    exact .inl ⟨a, xs, rfl, .of ha, fun p hp => k _ _ _ _ (.new_fz hp) (.lst upd_same (.inr rfl) ((hx.cut lo hi).later hs (Ext.new_fz hp).later)) hw⟩
  · obtain ⟨a, xs, rfl, ha, hx⟩ := hd.isT
    refine .inr (.inl ⟨a, xs, rfl, ha, fun z => ?_, fun _ p hp => ?_⟩)
    · rw [hx.length] at z
      rw [cutT_whole z] at hw
      exact k _ _ F H .refl hd hw
    · exact k _ _ _ _ (.new_tup hp) (.tup (.of upd_same) ((hx.cut lo hi).later hs (Ext.new_tup (F := F) hp).later)) hw
  · rw [hd.str_eq]
    exact .inr (.inr ⟨_, rfl, hw.1, k _ _ F H .refl (.str _) hw.2⟩)
  · exact hw.elim
theorem ve_slice (hs : SrcStays C) (hK : X.K = C.K) (he : PE X e (cE C W wa)) (hl : PO X lo (cO C W wl)) (hu : PO X hi (cO C W wh)) :
    PE X (.Subscript e (.Slice lo hi none p2) pos) (cE C W fun ρ Q E => wa ρ (fun d => wl ρ (fun l => wh ρ (fun u => wSl d l u Q) E) E) E) :=
  (pe_slice sl_all he hl hu).imp fun σ H Q ⟨F, ρ, Qv, Ev, rel, q, k, ex⟩ => ⟨F, ρ, _, Ev, rel, q, fun v d F1 H1 x1 hd q1 =>
    ⟨F1, ρ, _, Ev, rel.ext hs x1, q1, fun l F2 H2 x2 q2 => ⟨F2, ρ, _, Ev, rel.ext hs (x1.trans x2), q2, fun u F3 H3 x3 q3 => by
      rw [hK]
      exact sl_d hs (hd.later hs (x2.trans x3).later) q3 fun v2 d2 F4 H4 x4 hd2 q4 => k v2 d2 F4 H4 (((x1.trans x2).trans x3).trans x4) hd2 q4, ex.ext (x1.trans x2)⟩, ex.ext x1⟩, ex⟩
/-- xs[::-1] of a list -/
def wRev (d : T) (Q : T → Prop) : Prop :=
  match d with
  | .lst xs => Q (.lst xs.reverse)
  | _ => False
theorem ve_rev {k : Nat} {p1 p3 : Pos} (hs : SrcStays C) (he : PE X e (cE C W wa)) : PE X (.Subscript e (.Slice none none (some (.UnaryOp .USub (.Constant (.int 1) k p1) p2)) p3) pos) (cE C W fun ρ Q E => wa ρ (fun d => wRev d Q) E) :=
  (pe_revL he).imp fun σ H Q ⟨F, ρ, Qv, Ev, rel, q, k, ex⟩ => ⟨F, ρ, _, Ev, rel, q, fun v d F1 H1 x1 hd q1 => by
    unfold wRev at q1
    split at q1
    · obtain ⟨a, xs, rfl, ha, fa, hx⟩ := hd.isL
      exact ⟨a, xs, rfl, .of ha, fun p hp => k _ _ _ _ (x1.trans (.new_fz hp)) (.lst upd_same (.inr rfl) (hx.reverse.later hs (Ext.new_fz hp).later)) q1⟩
    · exact q1.elim, ex⟩
end
end L3

/-! L3cb: texts of trees (repr, str). -/
namespace L3
open PySem PySem.Spec PyProof.Rows L2

/-- plain data at most n deep, its ints of a text -/
def rpD : Nat → T → Bool
  | _, .non => true
  | _, .bl _ => true
  | _, .int i => decide (i.natAbs.log2 < 1920)
  | _, .str x => PyData.strOk x
  | n + 1, .lst xs => xs.all (rpD n)
  | n + 1, .tup xs => xs.all (rpD n)
  | _, _ => false
mutual
/-- a size -/
def szT : T → Nat
  | .str x => 1 + x.length
  | .lst xs => 1 + szTs xs
  | .tup xs => 1 + szTs xs
  | _ => 1
def szTs : List T → Nat
  | [] => 0
  | x :: xs => szT x + szTs xs
end
/-- the text of a tree -/
def shT (d : T) : Str := (toPy d).shown
def rpOk (d : T) : Prop := rpD 40 d = true ∧ szT d ≤ 8000

theorem shown_all {ds : List PyData} : PyData.shownAll ds = ds.map PyData.shown := by
  induction ds with
  | nil => rfl
  | cons d ds ih => rw [PyData.shownAll, ih]; rfl
theorem showable_all : ∀ {ds : List PyData}, (∀ d ∈ ds, d.showable = true) → PyData.showableAll ds = true
  | [], _ => rfl
  | d :: ds, h => by
    simp only [PyData.showableAll, Bool.and_eq_true]
    exact ⟨h d List.mem_cons_self, showable_all fun e he => h e (List.mem_cons_of_mem _ he)⟩
theorem noDict_all : ∀ {ds : List PyData}, (∀ d ∈ ds, d.hasDict = false) → PyData.hasDictAll ds = false
  | [], _ => rfl
  | d :: ds, h => by
    simp only [PyData.hasDictAll, Bool.or_eq_false_iff]
    exact ⟨h d List.mem_cons_self, noDict_all fun e he => h e (List.mem_cons_of_mem _ he)⟩
theorem textFrom_le : ∀ (ts : List Str) (k : Nat) (acc : Str), (textFrom k acc ts).length ≤ acc.length + piled ts
  | [], k, acc => Nat.le_add_right _ _
  | t :: r, k, acc => by
    have h := textFrom_le r (k + 1) (acc ++ (if k > 0 then ", " else "" : String) ++ t)
    have e : (acc ++ (if k > 0 then ", " else "" : String) ++ t).length ≤ acc.length + 2 + t.length := by
      rw [strLen_append, strLen_append]
      have : ((((if k > 0 then ", " else "" : String)) : Str)).length ≤ 2 := by split <;> decide +kernel
      omega
    rw [piled_cons]
    show (textFrom (k + 1) _ r).length ≤ _
    omega
theorem listText_le (ts : List Str) : (listText ts).length ≤ piled ts + 2 := by
  unfold listText
  rw [strLen_append]
  have h := textFrom_le ts 0 "["
  have e1 : ((("[" : String) : Str)).length = 1 := rfl
  have e2 : ((("]" : String) : Str)).length = 1 := rfl
  omega
theorem piled_sz {n : Nat} (ih : ∀ d, rpD n d = true → (shT d).length + 4 ≤ 2000 * szT d) : ∀ ds : List T, (∀ d ∈ ds, rpD n d = true) → piled ((ds.map toPy).map PyData.shown) ≤ 2000 * szTs ds
  | [], _ => Nat.zero_le _
  | d :: ds, h => by
    have h1 := ih d (h d List.mem_cons_self)
    have h2 := piled_sz ih ds fun e he => h e (List.mem_cons_of_mem _ he)
    rw [List.map_cons, List.map_cons, piled_cons, szTs]
    unfold shT at h1
    omega
theorem shT_len : ∀ {n : Nat} {d : T}, rpD n d = true → (shT d).length + 4 ≤ 2000 * szT d
  | _, .non, _ => by
    have : (shT .non).length = 4 := by decide +kernel
    show (shT .non).length + 4 ≤ 2000 * 1
    omega
  | _, .bl b, _ => by
    have : (shT (.bl b)).length ≤ 5 := by cases b <;> decide +kernel
    show (shT (.bl b)).length + 4 ≤ 2000 * 1
    omega
  | n, .int i, h => by
    have h' : i.natAbs.log2 < 1920 := by cases n <;> exact of_decide_eq_true h
    have := PyProof.Rows.int_text_len_1921 h'
    show (Str.ofString (toString i)).length + 4 ≤ 2000 * 1
    omega
  | n, .str x, h => by
    have h' : PyData.strOk x = true := by cases n <;> exact h
    have := StrLaws.reprText_len x fun c hc => Nat.lt_of_lt_of_le (of_decide_eq_true (Array.all_eq_true_iff_forall_mem.mp h' c (Array.mem_def.mpr hc))) (by decide)
    show (reprText x).length + 4 ≤ 2000 * (1 + x.length)
    omega
  | 0, .lst xs, h => by simp [rpD] at h
  | n + 1, .lst xs, h => by
    have h' : ∀ x ∈ xs, rpD n x = true := List.all_eq_true.mp h
    have q := piled_sz (fun d hd => shT_len hd) xs h'
    have e : shT (.lst xs) = listText ((xs.map toPy).map PyData.shown) := by
      unfold shT
      rw [toPy, toPys_map, PyData.shown, shown_all]
    rw [e, szT]
    have := listText_le ((xs.map toPy).map PyData.shown)
    omega
  | 0, .tup xs, h => by simp [rpD] at h
  | n + 1, .tup xs, h => by
    have h' : ∀ x ∈ xs, rpD n x = true := List.all_eq_true.mp h
    have q := piled_sz (fun d hd => shT_len hd) xs h'
    have e : shT (.tup xs) = tupleText ((xs.map toPy).map PyData.shown) := by
      unfold shT
      rw [toPy, toPys_map, PyData.shown, shown_all]
    rw [e, szT]
    have := fmt_text ((xs.map toPy).map PyData.shown)
    omega
  | n, .dct _, h => by cases n <;> simp [rpD] at h
  | n, .fn _, h => by cases n <;> simp [rpD] at h
  | n, .src _ _, h => by cases n <;> simp [rpD] at h
  | n, .ex _, h => by cases n <;> simp [rpD] at h
theorem rpD_lay : ∀ {n : Nat} {d : T}, rpD n d = true → (toPy d).showable = true ∧ (toPy d).hasDict = false ∧ (toPy d).depth ≤ n
  | _, .non, _ => ⟨rfl, rfl, Nat.zero_le _⟩
  | _, .bl _, _ => ⟨rfl, rfl, Nat.zero_le _⟩
  | n, .int i, h => ⟨by cases n <;> exact h, rfl, Nat.zero_le _⟩
  | n, .str x, h => ⟨rfl, rfl, Nat.zero_le _⟩
  | 0, .lst xs, h => by simp [rpD] at h
  | n + 1, .lst xs, h => by
    have h' : ∀ x ∈ xs, rpD n x = true := List.all_eq_true.mp h
    have q : ∀ d ∈ xs.map toPy, d.showable = true ∧ d.hasDict = false ∧ d.depth ≤ n := fun d hd => by
      obtain ⟨x, hx, rfl⟩ := List.mem_map.mp hd
      exact rpD_lay (h' x hx)
    rw [toPy, toPys_map]
    exact ⟨showable_all fun d hd => (q d hd).1, noDict_all fun d hd => (q d hd).2.1, Nat.succ_le_succ (depth_all fun d hd => (q d hd).2.2)⟩
  | 0, .tup xs, h => by simp [rpD] at h
  | n + 1, .tup xs, h => by
    have h' : ∀ x ∈ xs, rpD n x = true := List.all_eq_true.mp h
    have q : ∀ d ∈ xs.map toPy, d.showable = true ∧ d.hasDict = false ∧ d.depth ≤ n := fun d hd => by
      obtain ⟨x, hx, rfl⟩ := List.mem_map.mp hd
      exact rpD_lay (h' x hx)
    rw [toPy, toPys_map]
    exact ⟨showable_all fun d hd => (q d hd).1, noDict_all fun d hd => (q d hd).2.1, Nat.succ_le_succ (depth_all fun d hd => (q d hd).2.2)⟩
  | n, .dct _, h => by cases n <;> simp [rpD] at h
  | n, .fn _, h => by cases n <;> simp [rpD] at h
  | n, .src _ _, h => by cases n <;> simp [rpD] at h
  | n, .ex _, h => by cases n <;> simp [rpD] at h
section
variable {C : Ctx} {F : Addr → Prop} {H : Hp} {X : Cx} {pins : List (Addr × Obj)} {σ : L2.St} {s : Shared}
theorem reads_all (I : Inv X pins σ H s) {n : Nat} (ih : ∀ d v u, rpD n d = true → D C H F v d → RelV v u → ∃ as, Reads s.heap u (toPy d) as) :
    ∀ (ds : List T) (vs : List V) (us : List Value), (∀ d ∈ ds, rpD n d = true) → Ds C H F vs ds → Vals vs us → ∃ as, ReadsAll s.heap us (ds.map toPy) as
  | [], _, _, _, h, r => by cases h; cases r; exact ⟨_, .nil⟩
  | d :: ds, _, _, ho, h, r => by
    cases h with
    | cons h1 h2 =>
      cases r with
      | cons r1 r2 =>
        obtain ⟨as, x⟩ := ih d _ _ (ho d List.mem_cons_self) h1 r1
        obtain ⟨bs, y⟩ := reads_all I ih ds _ _ (fun e he => ho e (List.mem_cons_of_mem _ he)) h2 r2
        exact ⟨_, .cons x y⟩
theorem D.reads (I : Inv X pins σ H s) (hK : X.K = C.K) : ∀ {n : Nat} {d : T} {v : V} {u : Value}, rpD n d = true → D C H F v d → RelV v u → ∃ as, Reads s.heap u (toPy d) as
  | _, .non, _, _, _, h, r => by cases h; cases r; exact ⟨_, .none⟩
  | _, .bl b, _, _, _, h, r => by cases h; cases r; exact ⟨_, .bool b⟩
  | _, .int i, _, _, _, h, r => by cases h; obtain ⟨t, rfl⟩ := r; exact ⟨_, .int i t⟩
  | _, .str x, _, _, _, h, r => by cases h; obtain ⟨t, rfl⟩ := r; exact ⟨_, .str x t⟩
  | 0, .lst xs, _, _, ho, _, _ => by simp [rpD] at ho
  | n + 1, .lst xs, v, u, ho, h, r => by
    have h' : ∀ x ∈ xs, rpD n x = true := List.all_eq_true.mp ho
    obtain ⟨a, vs, rfl, ha, _, hd⟩ := h.isL
    cases r
    obtain ⟨its, rv, ⟨o, m, e, hc, _, hdt⟩, _⟩ := I.list (.of ha)
    obtain ⟨as, x⟩ := reads_all I (fun d v u a b c => D.reads I hK a b c) xs vs its h' hd rv
    rw [toPy, toPys_map]
    exact ⟨_, .list e hc hdt (by simpa using x)⟩
  | 0, .tup xs, _, _, ho, _, _ => by simp [rpD] at ho
  | n + 1, .tup xs, v, u, ho, h, r => by
    have h' : ∀ x ∈ xs, rpD n x = true := List.all_eq_true.mp ho
    obtain ⟨a, vs, rfl, ha, hd⟩ := h.isT
    cases r
    rw [← hK] at ha
    obtain ⟨its, rv, ⟨o, e, hc, m, hdt⟩, _⟩ := I.tuple ha
    obtain ⟨as, x⟩ := reads_all I (fun d v u a b c => D.reads I hK a b c) xs vs its h' hd rv
    rw [toPy, toPys_map]
    exact ⟨_, .tuple e hc hdt (by simpa using x)⟩
  | n, .dct _, _, _, h, _, _ => by cases n <;> simp [rpD] at h
  | n, .fn _, _, _, h, _, _ => by cases n <;> simp [rpD] at h
  | n, .src _ _, _, _, h, _, _ => by cases n <;> simp [rpD] at h
  | n, .ex _, _, _, h, _, _ => by cases n <;> simp [rpD] at h
/-- the text of what stands there -/
def rRepr (C : Ctx) : List V → Hp → VK → Prop := fun vs H Q => ∃ F v d, vs = [v] ∧ D C H F v d ∧ rpOk d ∧ Q (.str (shT d)) H
theorem call_repr (hK : X.K = C.K) (hgd : X.A.guards = some []) (hu : X.A.units + 64 < cLine) : CallR X (.builtin "repr") (rRepr C) := by
  intro pins s σ H xs us Q I r h
  obtain ⟨F, v, d, rfl, hd, ⟨h1, h2⟩, q⟩ := h
  cases r with
  | cons r rr =>
    cases rr
    rename_i u
    obtain ⟨as, x⟩ := D.reads I hK h1 hd r
    obtain ⟨s1, s2, s3⟩ := rpD_lay h1
    have hl := shT_len h1
    have hsz : (shT d).length ≤ sizeLine := Nat.le_trans (Nat.le_of_lt_succ (by omega : (shT d).length < 2000 * 8000 + 1)) (by decide)
    have leaf : ∀ {tk : Nat}, EP X pins σ Q (.str (shT d) s.toks) { s with toks := s.toks + 1 } := fun {tk} => ⟨.str _, H, I.tok _, ⟨_, rfl⟩, q⟩
    cases hd with
    | non => cases r; exact PySem.P.repr_of_none (leaf (tk := 0))
    | bl b => cases r; exact PySem.P.repr_of_bool (leaf (tk := 0))
    | int i => obtain ⟨t, rfl⟩ := r; exact PySem.P.repr_of_int (of_decide_eq_true s1) (leaf (tk := 0))
    | str y => obtain ⟨t, rfl⟩ := r; exact PySem.P.repr_of_str (leaf (tk := 0)) hsz
    | lst a b c => cases r; exact repr_of_reads' x s1 (fun z => by rw [s2] at z; cases z) hgd (by omega) (fun _ _ e => e) (fun h' u tk k => ⟨.str _, H, I.kept (t' := tk) k, ⟨u, rfl⟩, q⟩) hsz
    | tup a b => cases r; exact repr_of_reads' x s1 (fun z => by rw [s2] at z; cases z) hgd (by omega) (fun _ _ e => e) (fun h' u tk k => ⟨.str _, H, I.kept (t' := tk) k, ⟨u, rfl⟩, q⟩) hsz
    | dctK => simp [rpD] at h1
    | dctT => simp [rpD] at h1
    | fn => simp [rpD] at h1
    | src => simp [rpD] at h1
/-- str(x) -/
def rStr (C : Ctx) : List V → Hp → VK → Prop := fun vs H Q => (∃ x, vs = [.str x] ∧ Q (.str x) H) ∨ ∃ F v d, vs = [v] ∧ D C H F v d ∧ (∀ x, d ≠ .str x) ∧ rpOk d ∧ Q (.str (shT d)) H
theorem call_str (hK : X.K = C.K) (hgd : X.A.guards = some []) (hu : X.A.units + 64 < cLine) : CallR X (.type "str") (rStr C) := by
  intro pins s σ H xs us Q I r h
  rcases h with ⟨y, rfl, q⟩ | ⟨F, v, d, rfl, hd, hn, ⟨h1, h2⟩, q⟩
  · obtain ⟨u, rfl, t, rfl⟩ := vals1 r
    exact PySem.P.str_of_str ⟨.str y, H, I, ⟨t, rfl⟩, q⟩
  cases r with
  | cons r rr =>
    cases rr
    rename_i u
    obtain ⟨as, x⟩ := D.reads I hK h1 hd r
    obtain ⟨s1, s2, s3⟩ := rpD_lay h1
    have hl := shT_len h1
    have hsz : (shT d).length ≤ sizeLine := Nat.le_trans (Nat.le_of_lt_succ (by omega : (shT d).length < 2000 * 8000 + 1)) (by decide)
    have leaf : ∀ {tk : Nat}, EP X pins σ Q (.str (shT d) s.toks) { s with toks := s.toks + 1 } := fun {tk} => ⟨.str _, H, I.tok _, ⟨_, rfl⟩, q⟩
    cases hd with
    | non => cases r; exact PySem.P.str_of_none (leaf (tk := 0))
    | bl b => cases r; exact PySem.P.str_of_bool (leaf (tk := 0))
    | int i => obtain ⟨t, rfl⟩ := r; exact PySem.P.str_of_int (of_decide_eq_true s1) (leaf (tk := 0))
    | str y => exact (hn y rfl).elim
    | lst a b c => cases r; exact str_of_reads x s1 (fun z => by rw [s2] at z; cases z) hgd (by omega) (fun _ _ e => e) (fun h' u tk k => ⟨.str _, H, I.kept (t' := tk) k, ⟨u, rfl⟩, q⟩) hsz
    | tup a b => cases r; exact str_of_reads x s1 (fun z => by rw [s2] at z; cases z) hgd (by omega) (fun _ _ e => e) (fun h' u tk k => ⟨.str _, H, I.kept (t' := tk) k, ⟨u, rfl⟩, q⟩) hsz
    | dctK => simp [rpD] at h1
    | dctT => simp [rpD] at h1
    | fn => simp [rpD] at h1
    | src => simp [rpD] at h1
end
end L3

/-! L3d: tests, built-in functions. -/
namespace L3
open PySem PySem.Spec PyProof.Rows L2

section
variable {X : Cx} {C : Ctx} {W : WX} {a b c e : Expr} {wa wb wc : WE} {ta tb tc : WT} {es : List Expr} {ws : WA} {rest : List Expr} {pos : Pos}
/-- a value as a test -/
abbrev bOf (w : WE) : WT := fun ρ Q E => w ρ (fun d => ∃ b, d = .bl b ∧ Q b) E
theorem cT_tB {σ : L2.St} {H : Hp} {Q : Bool → Hp → Prop} (h : cT C W (bOf wa) σ H Q) : cE C W wa σ H fun x H1 => ∃ k, x = .bl k ∧ Q k H1 := by
  obtain ⟨F, ρ, Qv, Ev, rel, q, k, ex⟩ := h
  refine ⟨F, ρ, _, Ev, rel, q, fun v d F1 H1 x1 hd q1 => ?_, ex⟩
  obtain ⟨b, e, q1⟩ := q1
  subst e
  exact ⟨b, hd.bl_eq, k b F1 H1 x1 q1⟩
theorem vt_val (h : PE X e (cE C W wa)) (he : ∀ whole, isTrue e X.env whole = (do let v ← whole; standAt e.pos; holding [v] (truthy v))) : PT X e (cT C W (bOf wa)) :=
  (pt_val h he).imp fun _ _ _ h => cT_tB h
theorem vt_cmp {op : CmpOp} {r : R2} {w : T → T → (T → Prop) → Prop} (hs : SrcStays C) (hr : OpR X (compareOp op) r) (ho : OpD C r w) (ha : PE X a (cE C W wa)) (hb : PE X b (cE C W wb)) (hm : behindInMarks op b = false) :
    PT X (.Compare a [op] [b] pos) (cT C W (bOf fun ρ Q E => wa ρ (fun d => wb ρ (fun d' => w d d' Q) E) E)) :=
  (pt_cmpR hr ha hb hm).imp fun _ _ _ h => tOp_c hs ho (cT_tB h)
theorem vt_not (ha : PT X a (cT C W ta)) : PT X (.UnaryOp .Not a pos) (cT C W fun ρ Q E => ta ρ (fun b => Q (!b)) E) :=
  (pt_not ha).imp fun σ H Q ⟨F, ρ, Qv, Ev, rel, q, k, ex⟩ => ⟨F, ρ, _, Ev, rel, q, fun b F1 H1 x1 q1 => k _ F1 H1 x1 q1, ex⟩
theorem vw_and1 (ha : PT X a (cT C W ta)) : PW X (.BoolOp .And [a] pos) (cT C W ta) := pw_and1 ha
theorem vw_or1 (ha : PT X a (cT C W ta)) : PW X (.BoolOp .Or [a] pos) (cT C W ta) := pw_or1 ha
theorem vw_and (hs : SrcStays C) (ha : PT X a (cT C W ta)) (hb : PW X (.BoolOp .And (b :: rest) pos) (cT C W tb)) :
    PW X (.BoolOp .And (a :: b :: rest) pos) (cT C W fun ρ Q E => ta ρ (fun k => if k = true then tb ρ Q E else Q false) E) :=
  (pw_and ha hb).imp fun σ H Q ⟨F, ρ, Qv, Ev, rel, q, k, ex⟩ => ⟨F, ρ, _, Ev, rel, q, fun b F1 H1 x1 q1 => by
    cases b with
    | true => exact ⟨F1, ρ, Qv, Ev, rel.ext hs x1, q1, fun b F2 H2 x2 q2 => k b F2 H2 (x1.trans x2) q2, ex.ext x1⟩
    | false => exact k _ F1 H1 x1 q1, ex⟩
theorem vw_or (hs : SrcStays C) (ha : PT X a (cT C W ta)) (hb : PW X (.BoolOp .Or (b :: rest) pos) (cT C W tb)) :
    PW X (.BoolOp .Or (a :: b :: rest) pos) (cT C W fun ρ Q E => ta ρ (fun k => if k = true then Q true else tb ρ Q E) E) :=
  (pw_or ha hb).imp fun σ H Q ⟨F, ρ, Qv, Ev, rel, q, k, ex⟩ => ⟨F, ρ, _, Ev, rel, q, fun b F1 H1 x1 q1 => by
    cases b with
    | false => exact ⟨F1, ρ, Qv, Ev, rel.ext hs x1, q1, fun b F2 H2 x2 q2 => k b F2 H2 (x1.trans x2) q2, ex.ext x1⟩
    | true => exact k _ F1 H1 x1 q1, ex⟩
/-! .. as values -/
theorem ve_one {op : BoolOp} (ha : PE X a (cE C W wa)) : PE X (.BoolOp op [a] pos) (cE C W wa) := pe_one ha
theorem ve_and (hs : SrcStays C) (ha : PE X a (cE C W wa)) (hb : PE X (.BoolOp .And (b :: rest) pos) (cE C W wb)) :
    PE X (.BoolOp .And (a :: b :: rest) pos) (cE C W fun ρ Q E => wa ρ (fun d => ∃ k, d = .bl k ∧ if k = true then wb ρ Q E else Q (.bl false)) E) :=
  (pe_and ha hb).imp fun σ H Q ⟨F, ρ, Qv, Ev, rel, q, k, ex⟩ => ⟨F, ρ, _, Ev, rel, q, fun v d F1 H1 x1 hd ⟨b, e, q1⟩ => by
    subst e
    refine ⟨b, hd.bl_eq, ?_⟩
    cases b with
    | true => exact ⟨F1, ρ, Qv, Ev, rel.ext hs x1, q1, fun v d F2 H2 x2 hd q2 => k v d F2 H2 (x1.trans x2) hd q2, ex.ext x1⟩
    | false => exact k _ _ F1 H1 x1 (.bl _) q1, ex⟩
theorem ve_or (hs : SrcStays C) (ha : PE X a (cE C W wa)) (hb : PE X (.BoolOp .Or (b :: rest) pos) (cE C W wb)) :
    PE X (.BoolOp .Or (a :: b :: rest) pos) (cE C W fun ρ Q E => wa ρ (fun d => ∃ k, d = .bl k ∧ if k = true then Q (.bl true) else wb ρ Q E) E) :=
  (pe_or ha hb).imp fun σ H Q ⟨F, ρ, Qv, Ev, rel, q, k, ex⟩ => ⟨F, ρ, _, Ev, rel, q, fun v d F1 H1 x1 hd ⟨b, e, q1⟩ => by
    subst e
    refine ⟨b, hd.bl_eq, ?_⟩
    cases b with
    | false => exact ⟨F1, ρ, Qv, Ev, rel.ext hs x1, q1, fun v d F2 H2 x2 hd q2 => k v d F2 H2 (x1.trans x2) hd q2, ex.ext x1⟩
    | true => exact k _ _ F1 H1 x1 (.bl _) q1, ex⟩
theorem ve_not (ha : PE X a (cE C W wa)) : PE X (.UnaryOp .Not a pos) (cE C W fun ρ Q E => wa ρ (fun d => ∃ k, d = .bl k ∧ Q (.bl (!k))) E) :=
  (pe_not ha).imp fun σ H Q ⟨F, ρ, Qv, Ev, rel, q, k, ex⟩ => ⟨F, ρ, _, Ev, rel, q, fun v d F1 H1 x1 hd ⟨b, e, q1⟩ => by
    subst e
    exact ⟨b, hd.bl_eq, k _ _ F1 H1 x1 (.bl _) q1⟩, ex⟩
theorem ve_ite (hs : SrcStays C) (hc : PT X c (cT C W tc)) (ha : PE X a (cE C W wa)) (hb : PE X b (cE C W wb)) :
    PE X (.IfExp c a b pos) (cE C W fun ρ Q E => tc ρ (fun k => if k = true then wa ρ Q E else wb ρ Q E) E) :=
  (pe_ifExp hc ha hb).imp fun σ H Q ⟨F, ρ, Qv, Ev, rel, q, k, ex⟩ => ⟨F, ρ, _, Ev, rel, q, fun b F1 H1 x1 q1 => by
    cases b with
    | true => exact ⟨F1, ρ, Qv, Ev, rel.ext hs x1, q1, fun v d F2 H2 x2 hd q2 => k v d F2 H2 (x1.trans x2) hd q2, ex.ext x1⟩
    | false => exact ⟨F1, ρ, Qv, Ev, rel.ext hs x1, q1, fun v d F2 H2 x2 hd q2 => k v d F2 H2 (x1.trans x2) hd q2, ex.ext x1⟩, ex⟩
/-- a op1 b op2 c -/
theorem ve_chain {op op' : CmpOp} {r r' : R2} {w w' : T → T → (T → Prop) → Prop} (hs : SrcStays C) (hr : OpR X (compareOp op) r) (ho : OpD C r w) (hr' : OpR X (compareOp op') r') (ho' : OpD C r' w')
    (ha : PE X a (cE C W wa)) (hb : PE X b (cE C W wb)) (hc : PE X c (cE C W wc)) (hm : lastMarks [op, op'] [b, c] = false) :
    PE X (.Compare a [op, op'] [b, c] pos) (cE C W fun ρ Q E => wa ρ (fun d => wb ρ (fun d' => w d d' fun x => ∃ k, x = .bl k ∧ if k = true then wc ρ (fun d2 => w' d' d2 Q) E else Q (.bl false)) E) E) :=
  (pe_chain hr hr' ha hb hc hm).imp fun σ H Q ⟨F, ρ, Qv, Ev, rel, q, k, ex⟩ => ⟨F, ρ, _, Ev, rel, q, fun v d F1 H1 x1 hd q1 =>
    ⟨F1, ρ, _, Ev, rel.ext hs x1, q1, fun v2 d2 F2 H2 x2 hd2 q2 => ho F2 H2 v v2 d d2 _ _ (hd.later hs x2.later) hd2 q2 fun v3 d3 F3 H3 x3 hd3 ⟨kk, e, q3⟩ => by
      subst e
      refine ⟨kk, hd3.bl_eq, ?_⟩
      cases kk with
      | true =>
        exact ⟨F3, ρ, _, Ev, rel.ext hs ((x1.trans x2).trans x3), q3, fun v4 d4 F4 H4 x4 hd4 q4 => ho' F4 H4 v2 v4 d2 d4 Qv _ (hd2.later hs (x3.trans x4).later) hd4 q4 fun v5 d5 F5 H5 x5 hd5 q5 => k v5 d5 F5 H5 ((((x1.trans x2).trans x3).trans x4).trans x5) hd5 q5, ex.ext ((x1.trans x2).trans x3)⟩
      | false => exact k _ _ F3 H3 ((x1.trans x2).trans x3) (.bl _) q3, ex.ext x1⟩, ex⟩

/-! ### built-in functions -/
def CallD (C : Ctx) (r : List V → Hp → VK → Prop) (w : List T → (T → Prop) → Prop) : Prop :=
  ∀ (F : Addr → Prop) (H : Hp) (vs : List V) (ds : List T) (Qv : T → Prop) (Q : VK), Ds C H F vs ds → w ds Qv → (∀ v d F' H', Ext F H F' H' → D C H' F' v d → Qv d → Q v H') → r vs H Q
theorem tCB_c {r : List V → Hp → VK → Prop} {w : List T → (T → Prop) → Prop} (ho : CallD C r w) {σ : L2.St} {H : Hp} {Q : VK} (h : cE C W (fun ρ Q E => ws ρ (fun ds => w ds Q) E) σ H Q) : tCB r (cA C W ws) σ H Q := by
  obtain ⟨F, ρ, Qv, Ev, rel, q, k, ex⟩ := h
  exact ⟨F, ρ, _, Ev, rel, q, fun vs ds F1 H1 x1 hds q1 => ho F1 H1 vs ds Qv Q hds q1 fun v d F2 H2 x2 hd q2 => k v d F2 H2 (x1.trans x2) hd q2, ex⟩
end

theorem Ds.one {C : Ctx} {H : Hp} {F : Addr → Prop} {vs : List V} {d : T} (h : Ds C H F vs [d]) : ∃ v, vs = [v] ∧ D C H F v d := by
  cases h with
  | cons h1 h2 => cases h2; exact ⟨_, rfl, h1⟩
theorem Ds.two {C : Ctx} {H : Hp} {F : Addr → Prop} {vs : List V} {d d' : T} (h : Ds C H F vs [d, d']) : ∃ v v', vs = [v, v'] ∧ D C H F v d ∧ D C H F v' d' := by
  cases h with
  | cons h1 h2 =>
    obtain ⟨v', e, h3⟩ := h2.one
    exact ⟨_, v', by rw [e], h1, h3⟩

/-- the built-in functions and types that are called -/
inductive Bf where
  | len | abs | int | list | tuple | all | any | sum | max2 | min2 | repr | str
  deriving DecidableEq
def Bf.name : Bf → Str
  | .len => "len" | .abs => "abs" | .int => "int" | .list => "list" | .tuple => "tuple" | .all => "all" | .any => "any" | .sum => "sum" | .max2 => "max" | .min2 => "min" | .repr => "repr" | .str => "str"
def Bf.val : Bf → Value
  | .len => .builtin "len" | .abs => .builtin "abs" | .int => .type "int" | .list => .type "list" | .tuple => .type "tuple" | .all => .builtin "all" | .any => .builtin "any" | .sum => .builtin "sum" | .max2 => .builtin "max" | .min2 => .builtin "min" | .repr => .builtin "repr" | .str => .type "str"
/-- a list of bools -/
def blsT : List T → Option (List Bool)
  | [] => some []
  | .bl b :: xs => (blsT xs).map (b :: ·)
  | _ :: _ => none
def intsT : List T → Option (List Int)
  | [] => some []
  | .int b :: xs => (intsT xs).map (b :: ·)
  | _ :: _ => none
def Bf.w : Bf → List T → (T → Prop) → Prop
  | .len, [.lst xs], Q => Q (.int xs.length)
  | .len, [.tup xs], Q => Q (.int xs.length)
  | .len, [.str x], Q => x.length ≤ sizeLine ∧ Q (.int x.length)
  | .len, [.dct x], Q => Q (.int x.length)
  | .abs, [.int i], Q => Q (.int (if i < 0 then -i else i))
  | .int, [.int i], Q => Q (.int i)
  | .int, [.bl b], Q => Q (.int (if b then 1 else 0))
  | .list, [.lst xs], Q => Q (.lst xs)
  | .list, [.tup xs], Q => Q (.lst xs)
  | .tuple, [.lst xs], Q => Q (.tup xs)
  | .tuple, [.tup xs], Q => Q (.tup xs)
  | .all, [.lst xs], Q => ∃ bs, blsT xs = some bs ∧ Q (.bl (bs.all id))
  | .any, [.lst xs], Q => ∃ bs, blsT xs = some bs ∧ Q (.bl (bs.any id))
  | .sum, [.lst xs], Q => ∃ ns, intsT xs = some ns ∧ Q (.int ns.sum)
  | .max2, [.int i, .int j], Q => Q (.int (if j > i then j else i))
  | .min2, [.int i, .int j], Q => Q (.int (if j < i then j else i))
  | .repr, [d], Q => rpOk d ∧ Q (.str (shT d))
  | .str, [.str x], Q => Q (.str x)
  | .str, [d], Q => rpOk d ∧ Q (.str (shT d))
  | _, _, _ => False
theorem Ds.bls {C : Ctx} {H : Hp} {F : Addr → Prop} : ∀ {ds : List T} {vs : List V} {bs : List Bool}, Ds C H F vs ds → blsT ds = some bs → vs = bs.map V.bl
  | [], vs, bs, h, e => by cases h; cases e; rfl
  | .bl b :: ds, vs, bs, h, e => by
    cases h with
    | cons h1 h2 =>
      unfold blsT at e
      cases q : blsT ds with
      | none => rw [q] at e; cases e
      | some cs =>
        rw [q] at e
        cases e
        rw [h1.bl_eq, Ds.bls h2 q]
        rfl
  | .non :: _, _, _, _, e => by cases e
  | .int _ :: _, _, _, _, e => by cases e
  | .str _ :: _, _, _, _, e => by cases e
  | .lst _ :: _, _, _, _, e => by cases e
  | .tup _ :: _, _, _, _, e => by cases e
  | .dct _ :: _, _, _, _, e => by cases e
  | .fn _ :: _, _, _, _, e => by cases e
  | .src _ _ :: _, _, _, _, e => by cases e
  | .ex _ :: _, _, _, _, e => by cases e
theorem Ds.ints {C : Ctx} {H : Hp} {F : Addr → Prop} : ∀ {ds : List T} {vs : List V} {bs : List Int}, Ds C H F vs ds → intsT ds = some bs → vs = bs.map V.int
  | [], vs, bs, h, e => by cases h; cases e; rfl
  | .int b :: ds, vs, bs, h, e => by
    cases h with
    | cons h1 h2 =>
      unfold intsT at e
      cases q : intsT ds with
      | none => rw [q] at e; cases e
      | some cs =>
        rw [q] at e
        cases e
        rw [h1.int_eq, Ds.ints h2 q]
        rfl
  | .non :: _, _, _, _, e => by cases e
  | .bl _ :: _, _, _, _, e => by cases e
  | .str _ :: _, _, _, _, e => by cases e
  | .lst _ :: _, _, _, _, e => by cases e
  | .tup _ :: _, _, _, _, e => by cases e
  | .dct _ :: _, _, _, _, e => by cases e
  | .fn _ :: _, _, _, _, e => by cases e
  | .src _ _ :: _, _, _, _, e => by cases e
  | .ex _ :: _, _, _, _, e => by cases e
theorem boot_of {b : Bf} : bootBuiltins b.name = some b.val := by cases b <;> decide +kernel
end L3

/-! L3ea: enumerate of a tuple. -/
namespace PySem
open Sem (wp)
set_option maxHeartbeats 1000000 in
theorem meets_enumerate_newB1 {v : Value} {o : Obj} {H : Heap → Prop} (B : Begins v o H) :
    Meets (Builtin.«enumerate.__new__» ⟨[.type "enumerate", v], []⟩) (fun _ R s => H s.heap ∧
      R (.ok (.ret (.ref (s.heap.push o).objs.size))) { s with heap := (s.heap.push o).push { cls := .type "enumerate", data := .fields #[.none, .bool false, .ref s.heap.objs.size, rawInt 0, .none, .none] } }) :=
  .of_wp fun prog w A R s h => by
    obtain ⟨hp, g, d, tk, os⟩ := s; obtain ⟨h1, h⟩ := h
    have hsub := sub_enumerate
    have q1 : ∀ {A' : Around} {E : Value → Shared → Prop} {Q : Value → Shared → Prop}, Q (.ref hp.objs.size) ⟨hp.push o, g, d, tk, os⟩ → wpAny (model prog w) A' (pyIter v) Q E ⟨hp, g, d, tk, os⟩ :=
      fun q => B.iter prog w _ _ ⟨hp, g, d, tk, os⟩ _ h1 q
    wp_walk using q1
    refine wpAny_stack_any fun st => wpAny_pure ?_
    split
    · rename_i c _ _ _ _ _
      cases (c == Value.type "enumerate")
      · wp_walk using q1
        exact ⟨_, rfl, h⟩
      · wp_walk using q1
        exact ⟨_, rfl, h⟩
    · wp_walk using q1
      exact ⟨_, rfl, h⟩
section
variable {prog : Program} {w : World} {A : Around} {E : Value → Shared → Prop} {s : Shared}
theorem enum_begins1 {v : Value} {o : Obj} {H : Heap → Prop} {Q : Value → Shared → Prop} (B : Begins v o H) (h1 : H s.heap)
    (h : ∀ h', IsEnum h' (s.heap.objs.size + 1) s.heap.objs.size 0 .none → h'.get? s.heap.objs.size = some o → h'.objs.size = s.heap.objs.size + 2 →
      (∀ b o, s.heap.get? b = some o → h'.get? b = some o) → Q (.ref (s.heap.objs.size + 1)) { s with heap := h' }) :
    wpAny (model prog w) A (call (.type "enumerate") [v]) Q E s := by
  refine callType_new F.called_enumerate (by decide) (F.typeCall_enumerate_1 _) (F.newCall_enumerate_1 _) (fun obj => F.args_object_init_2 obj _) F.entry_enumerate_new
    (meets_enumerate_newB1 B) ⟨h1, ?_⟩
  have hz : (s.heap.push o).objs.size = s.heap.objs.size + 1 := Heap.size_push ..
  show _ ∧ _
  rw [hz]
  have he : IsEnum ((s.heap.push o).push { cls := .type "enumerate", data := .fields #[.none, .bool false, .ref s.heap.objs.size, rawInt 0, .none, .none] }) (s.heap.objs.size + 1) s.heap.objs.size 0 .none := by
    have := Heap.get?_push_size (s.heap.push o) (o := { cls := .type "enumerate", data := .fields #[.none, .bool false, .ref s.heap.objs.size, rawInt 0, .none, .none] }) rfl
    rw [hz] at this; exact this
  refine ⟨⟨_, he, rfl⟩, h _ he (Heap.get?_push_of_some _ (Heap.get?_push_size _ B.free)) (by rw [Heap.size_push, hz]) fun b o x => Heap.get?_push_of_some _ (Heap.get?_push_of_some _ x)⟩
end
end PySem
namespace L3
open PySem PySem.Spec PyProof.Rows L2
def Ien (K : PySem.W.Frag) (a : Addr) : It :=
  ⟨fun i H => ∃ (xs : List V) (x : V), SqT K H a xs ∧ xs[i]? = some x, fun i H v H' => ∃ T x, v = .ref T ∧ H T = none ∧ H' = upd H T (.tup [.int (i : Nat), x]) ∧ ∀ xs, SqT K H a xs → xs[i]? = some x, fun i H => ∃ xs : List V, SqT K H a xs ∧ xs.length = i⟩
theorem turn_en {P : Program} {w : World} {K : PySem.W.Frag} {elts : List Expr} {kk : Nat} {tpos : Pos} (a e it : Addr) :
    Turn P w K (.Tuple elts kk tpos) (Ien K a) [e, it] e (fun i h => (∃ old, IsEnum h e it ((i : Nat) : Int) old) ∧ h.IsTupleIter it a i ∧ e ≠ it) where
  mem := by simp
  obj := fun i h st b hb => by
    obtain ⟨⟨old, he⟩, ⟨o, ho, hc, hd⟩, _⟩ := st
    have e' : b = e ∨ b = it := by simpa using hb
    rcases e' with z | z
    · rw [z]; exact ⟨_, he, fun v q => nomatch q⟩
    · rw [z]; exact ⟨o, ho, fun v q => by rw [hd] at q; cases q⟩
  keep := fun i h h' st k => let ⟨⟨old, he⟩, hi, hne⟩ := st; ⟨⟨old, k e (by simp) _ he⟩, hi.at fun o q => k it (by simp) o q, hne⟩
  item := by
    intro X hP hw hK hc i pins s σ H E I hf st hg
    subst hP hw hK
    obtain ⟨⟨old, he⟩, hit, hne⟩ := st
    obtain ⟨xs, x, hq, hx⟩ := hg
    obtain ⟨its, rv, p, hz⟩ := I.tuple hq
    obtain ⟨u, hu, ru⟩ := rv.get hx
    have hel : e < s.heap.objs.size := Heap.lt_size he
    have hil : it < s.heap.objs.size := by obtain ⟨_, q, _⟩ := hit; exact Heap.lt_size q
    have hT0 : s.heap.IsTuple a its.toArray := p
    have hai : a ≠ it := fun z => by
      obtain ⟨o, ho, hc, _⟩ := hT0
      obtain ⟨o', ho', hc', _⟩ := hit
      subst z
      rw [ho] at ho'; cases ho'
      rw [hc] at hc'
      exact absurd (Value.type.inj hc') (by decide)
    have hae : e ≠ a := fun z => by
      obtain ⟨o, ho, hc, _⟩ := hT0
      subst z
      have he : s.heap.get? e = _ := he
      rw [ho] at he; cases he
      exact absurd (Value.type.inj hc) (by decide)
    have D := Draws.tuple (prog := X.prog) (w := X.w) (A := X.A.in1) (I.ok.hd hc) it a hai its.toArray
    have hlt : i < its.toArray.size := by
      have := (List.getElem?_eq_some_iff.mp hu).1
      simpa using this
    refine wpAny_pyNext_enum_itemD D he ⟨hit, hT0⟩ hlt hne (by simp [hne, hae]) fun x1 h' tk hP ho hst' hT hsz hk => ?_
    have ex : x1 = u := by
      have z : its.toArray[i]? = some u := by simpa using hu
      rw [z] at hP
      exact (Option.some.inj hP).symm
    subst ex
    refine ⟨_, rfl, wpAny_letOwnedTupleGo_enum (s := { s with heap := h', toks := tk + 1 }) ho fun h'' he' sb => ?_⟩
    have hT2 : h''.get? s.heap.objs.size = some { cls := .type "tuple", data := .seq #[.int i tk, x1] } := (sb.2 _ (Nat.ne_of_gt hel)).trans hT
    have new : ObjOk X.prog X.w (upd H s.heap.objs.size (.tup [.int (i : Nat), x])) h'' s.heap.objs.size (.tup [.int (i : Nat), x]) :=
      ⟨by show 2 ≤ sizeLine; decide, [.int i tk, x1], .cons ⟨_, rfl⟩ (.cons ru .nil), ⟨_, hT2, rfl, _, rfl⟩⟩
    have I1 : Inv X pins σ (upd H s.heap.objs.size (.tup [.int (i : Nat), x])) { s with heap := h'', toks := tk + 1 } :=
      I.turnedNew (ch := [e, it]) (fun b ob hb q => (sb.2 b (fun z => hb (by simp [z]))).trans (hk b ob (fun z => hb (by simp [z])) (fun z => hb (by simp [z])) q)) hf (Nat.le_refl _) new
    refine ⟨.ref s.heap.objs.size, _, I1, rfl, ⟨_, x, rfl, I.hok.fresh (Nat.le_refl _), rfl, fun ys hy => by rw [I.tuple_inj hy hq]; exact hx⟩, ⟨⟨x1, ?_⟩, hst'.1.at fun o q => (sb.2 it (Ne.symm hne)).trans q, hne⟩, fun b hb => ?_⟩
    · have e1 : ((i + 1 : Nat) : Int) = (i : Int) + 1 := by omega
      rw [e1]; exact he'
    · have hb' : b < s.heap.objs.size := by
        have e' : b = e ∨ b = it := by simpa using hb
        rcases e' with z | z
        · rw [z]; exact hel
        · rw [z]; exact hil
      rw [upd_ne (Nat.ne_of_lt hb')]
      exact (hf b hb).1
  done := by
    intro X hP hw hK hc i pins s σ H E I hf st hg
    subst hP hw hK
    obtain ⟨⟨old, he⟩, hit, hne⟩ := st
    obtain ⟨xs, hq, hx⟩ := hg
    obtain ⟨its, rv, p, hz⟩ := I.tuple hq
    obtain ⟨f0, f1, f2, f3, f4, f5⟩ := hf it (by simp)
    have hl := rv.length
    have hT0 : s.heap.IsTuple a its.toArray := p
    have hai : a ≠ it := fun z => by
      obtain ⟨o, ho, hc, _⟩ := hT0
      obtain ⟨o', ho', hc', _⟩ := hit
      subst z
      rw [ho] at ho'; cases ho'
      rw [hc] at hc'
      exact absurd (Value.type.inj hc') (by decide)
    have D := Draws.tuple (prog := X.prog) (w := X.w) (A := X.A.in1) (I.ok.hd hc) it a hai (its.toArray)
    have hi : i = its.toArray.size := by simp; omega
    subst hi
    exact wpAny_pyNext_enum_endD D he ⟨hit, hT0⟩ fun h' eb => ⟨rfl, I.turned (t' := s.toks) (fun b o hb q => eb b o hb q) f0 f1 f3 f4 f5⟩
  self := fun A i s Q E st h => let ⟨⟨_, he⟩, _⟩ := st; wpAny_pyIter_enum he h
/-- a list or a tuple -/
def iEn (K : PySem.W.Frag) (ta : TA) : TI := fun σ H R => ta σ H fun vs H1 => (∃ a xs, vs = [.ref a] ∧ SqL K H1 a xs ∧ R (Ite K a) H1) ∨ ∃ a xs, vs = [.ref a] ∧ SqT K H1 a xs ∧ R (Ien K a) H1
theorem pi_en {X : Cx} {e : Expr} {ta : TA} {p pos tpos : Pos} {elts : List Expr} {kk : Nat} (hg : Gl X "enumerate") (hm : X.mg "enumerate" = none) (ha : PA X [e] ta) (hs : starEach [e] X.env = [(false, eval e X.env)]) :
    PI X (.Tuple elts kk tpos) (.Call (.Name "enumerate" p) [e] [] pos) (iEn X.K ta) := by
  refine ⟨fun pins s σ H R I h => ?_⟩
  refine Call_ (ld_blt I hg hm boot_enumerate (PyProof.Rows.callWith_type1 (thn (ha.run pos pins s σ H _ I h) fun us s1 ⟨vs, H1, I1, r1, q1⟩ => ?_) hs rfl))
  have lies : ∀ {b : Addr}, b ∈ [s1.heap.objs.size + 1, s1.heap.objs.size] → s1.heap.objs.size ≤ b := fun {b} hb => by
    have e' : b = s1.heap.objs.size + 1 ∨ b = s1.heap.objs.size := by simpa using hb
    rcases e' with z | z
    · rw [z]; exact Nat.le_add_right _ _
    · rw [z]; exact Nat.le_refl _
  rcases q1 with ⟨a, xs, ex, hq, q⟩ | ⟨a, xs, ex, hq, q⟩
  · subst ex
    cases r1 with
    | cons r rr =>
      cases rr
      cases r
      obtain ⟨its, rv, p', hz⟩ := I1.list hq
      refine call_enumerate_list p'.isList fun h' he hit hsz hk => wpAny_pyIter_enum he ?_
      have I2 : Inv X pins σ H1 { s1 with heap := h' } := I1.kept (t' := s1.toks) hk
      exact ⟨s1.heap.objs.size + 1, [s1.heap.objs.size + 1, s1.heap.objs.size], _, _, H1, rfl, I2, turn_enum a (s1.heap.objs.size + 1) s1.heap.objs.size, ⟨⟨.none, he⟩, hit, Nat.succ_ne_self _⟩, fun b hb => I1.fpOk (lies hb) (I1.hok.fresh (lies hb)), q⟩
  · subst ex
    cases r1 with
    | cons r rr =>
      cases rr
      cases r
      obtain ⟨its, rv, p', hz⟩ := I1.tuple hq
      refine enum_begins1 (begins_tuple a its.toArray) p' fun h' he hit hsz hk => wpAny_pyIter_enum he ?_
      have I2 : Inv X pins σ H1 { s1 with heap := h' } := I1.kept (t' := s1.toks) hk
      exact ⟨s1.heap.objs.size + 1, [s1.heap.objs.size + 1, s1.heap.objs.size], _, _, H1, rfl, I2, turn_en a (s1.heap.objs.size + 1) s1.heap.objs.size, ⟨⟨.none, he⟩, ⟨_, hit, rfl, rfl⟩, Nat.succ_ne_self _⟩, fun b hb => I1.fpOk (lies hb) (I1.hok.fresh (lies hb)), q⟩
end L3

/-! L3e: built-in functions hold their words. -/
namespace L3
open PySem PySem.Spec PyProof.Rows L2
abbrev rLenD : List V → Hp → VK → Prop := fun xs H Q => ∃ a kvs, xs = [V.ref a] ∧ H a = some (.dK kvs) ∧ Q (.int kvs.length) H
abbrev rLenS (K : PySem.W.Frag) : List V → Hp → VK → Prop := fun xs H Q => ∃ x n, xs = [x] ∧ LenV K x H n ∧ Q (.int n) H
theorem zip_len {α β : Type} {xs : List α} {ys : List β} (h : xs.length = ys.length) : (xs.zip ys).length = xs.length := by
  rw [List.length_zip, h, Nat.min_self]
theorem len_ok {X : Cx} {C : Ctx} (hK : X.K = C.K) : ∃ r, CallR X (.builtin "len") r ∧ CallD C r (Bf.w .len) := by
  refine ⟨_, call_len.or (call_lenD.or call_len_dT), fun F H vs ds Qv Q hds hw k => ?_⟩
  unfold Bf.w at hw
  split at hw <;> first | (rename_i hb; cases hb) | skip
  all_goals first | exact hw.elim | skip
  · obtain ⟨v, rfl, hd⟩ := hds.one
    obtain ⟨a, xs, rfl, ha, fa, hx⟩ := hd.isL
    exact .inl ⟨.ref a, xs.length, rfl, .inl ⟨xs, .of ha, rfl⟩, k _ _ F H .refl (.int _) (by rw [hx.length]; exact hw)⟩
  · obtain ⟨v, rfl, hd⟩ := hds.one
    obtain ⟨a, xs, rfl, ha, hx⟩ := hd.isT
    exact .inl ⟨.ref a, xs.length, rfl, .inr ⟨xs, by rw [hK]; exact ha, rfl⟩, k _ _ F H .refl (.int _) (by rw [hx.length]; exact hw)⟩
  · obtain ⟨v, rfl, hd⟩ := hds.one
    rw [hd.str_eq]
    exact .inl ⟨.str _, _, rfl, ⟨hw.1, rfl⟩, k _ _ F H .refl (.int _) hw.2⟩
  · obtain ⟨v, rfl, hd⟩ := hds.one
    cases hd with
    | dctK h1 h2 h3 =>
      refine .inr (.inl ⟨_, _, rfl, h1, k _ _ F H .refl (.int _) ?_⟩)
      have e := h3.length
      rw [zip_len (by rw [List.length_map]; rw [List.length_map] at e; exact e), List.length_map] at hw
      exact hw
    | dctT h1 h2 h3 =>
      refine .inr (.inr ⟨_, _, rfl, h1, k _ _ F H .refl (.int _) ?_⟩)
      have e := h3.length
      rw [zip_len (by rw [List.length_map]; rw [List.length_map] at e; exact e), List.length_map] at hw
      exact hw
theorem bf_ok {X : Cx} {C : Ctx} (hs : SrcStays C) (hK : X.K = C.K) (hc : X.calm = true) (hgd : X.A.guards = some []) (hu : X.A.units + 64 < cLine) (b : Bf) : ∃ r, CallR X b.val r ∧ CallD C r b.w := by
  cases b with
  | len => exact len_ok hK
  | abs =>
    refine ⟨_, call_abs, fun F H vs ds Qv Q hds hw k => ?_⟩
    unfold Bf.w at hw
    split at hw <;> first | (rename_i hb; cases hb) | skip
    all_goals first | exact hw.elim | skip
    obtain ⟨v, rfl, hd⟩ := hds.one
    rw [hd.int_eq]
    exact ⟨_, rfl, k _ _ F H .refl (.int _) hw⟩
  | int =>
    refine ⟨_, call_int1, fun F H vs ds Qv Q hds hw k => ?_⟩
    unfold Bf.w at hw
    split at hw <;> first | (rename_i hb; cases hb) | skip
    all_goals first | exact hw.elim | skip
    · obtain ⟨v, rfl, hd⟩ := hds.one
      rw [hd.int_eq]
      exact .inl ⟨_, rfl, k _ _ F H .refl (.int _) hw⟩
    · obtain ⟨v, rfl, hd⟩ := hds.one
      rw [hd.bl_eq]
      exact .inr ⟨_, rfl, k _ _ F H .refl (.int _) hw⟩
  | list =>
    refine ⟨_, call_list_of, fun F H vs ds Qv Q hds hw k => ?_⟩
    unfold Bf.w at hw
    split at hw <;> first | (rename_i hb; cases hb) | skip
    all_goals first | exact hw.elim | skip
    · obtain ⟨v, rfl, hd⟩ := hds.one
      obtain ⟨a, xs, rfl, ha, fa, hx⟩ := hd.isL
      exact ⟨a, xs, rfl, .inl (.of ha), fun p hp => k _ _ _ _ (.new_fz hp) (.lst upd_same (.inr rfl) (hx.later hs (Ext.new_fz hp).later)) hw⟩
    · obtain ⟨v, rfl, hd⟩ := hds.one
      obtain ⟨a, xs, rfl, ha, hx⟩ := hd.isT
      exact ⟨a, xs, rfl, .inr (by rw [hK]; exact ha), fun p hp => k _ _ _ _ (.new_fz hp) (.lst upd_same (.inr rfl) (hx.later hs (Ext.new_fz hp).later)) hw⟩
  | tuple =>
    refine ⟨_, call_tuple_of, fun F H vs ds Qv Q hds hw k => ?_⟩
    unfold Bf.w at hw
    split at hw <;> first | (rename_i hb; cases hb) | skip
    all_goals first | exact hw.elim | skip
    · obtain ⟨v, rfl, hd⟩ := hds.one
      obtain ⟨a, xs, rfl, ha, fa, hx⟩ := hd.isL
      exact ⟨a, xs, rfl, .inl ⟨.of ha, fun p hp => k _ _ _ _ (.new_tup hp) (.tup (.of upd_same) (hx.later hs (Ext.new_tup (F := F) hp).later)) hw⟩⟩
    · obtain ⟨v, rfl, hd⟩ := hds.one
      obtain ⟨a, xs, e, ha, hx⟩ := hd.isT
      subst e
      exact ⟨a, xs, rfl, .inr ⟨by rw [hK]; exact ha, k _ _ F H .refl hd hw⟩⟩
  | all =>
    refine ⟨_, cr_all hc, fun F H vs ds Qv Q hds hw k => ?_⟩
    unfold Bf.w at hw
    split at hw <;> first | (rename_i hb; cases hb) | skip
    all_goals first | exact hw.elim | skip
    obtain ⟨bs, e, q⟩ := hw
    obtain ⟨v, rfl, hd⟩ := hds.one
    obtain ⟨a, xs, rfl, ha, fa, hx⟩ := hd.isL
    have e2 := hx.bls e
    subst e2
    exact ⟨a, bs, rfl, .of ha, k _ _ F H .refl (.bl _) q⟩
  | any =>
    refine ⟨_, cr_any hc, fun F H vs ds Qv Q hds hw k => ?_⟩
    unfold Bf.w at hw
    split at hw <;> first | (rename_i hb; cases hb) | skip
    all_goals first | exact hw.elim | skip
    obtain ⟨bs, e, q⟩ := hw
    obtain ⟨v, rfl, hd⟩ := hds.one
    obtain ⟨a, xs, rfl, ha, fa, hx⟩ := hd.isL
    have e2 := hx.bls e
    subst e2
    exact ⟨a, bs, rfl, .of ha, k _ _ F H .refl (.bl _) q⟩
  | sum =>
    refine ⟨_, cr_sum hc, fun F H vs ds Qv Q hds hw k => ?_⟩
    unfold Bf.w at hw
    split at hw <;> first | (rename_i hb; cases hb) | skip
    all_goals first | exact hw.elim | skip
    obtain ⟨bs, e, q⟩ := hw
    obtain ⟨v, rfl, hd⟩ := hds.one
    obtain ⟨a, xs, rfl, ha, fa, hx⟩ := hd.isL
    have e2 := hx.ints e
    subst e2
    exact ⟨a, bs, rfl, .of ha, k _ _ F H .refl (.int _) q⟩
  | max2 =>
    refine ⟨_, call_max2 hc, fun F H vs ds Qv Q hds hw k => ?_⟩
    unfold Bf.w at hw
    split at hw <;> first | (rename_i hb; cases hb) | skip
    all_goals first | exact hw.elim | skip
    obtain ⟨v, v', rfl, hd, hd'⟩ := hds.two
    rw [hd.int_eq, hd'.int_eq]
    exact ⟨_, _, rfl, k _ _ F H .refl (.int _) hw⟩
  | min2 =>
    refine ⟨_, call_min2 hc, fun F H vs ds Qv Q hds hw k => ?_⟩
    unfold Bf.w at hw
    split at hw <;> first | (rename_i hb; cases hb) | skip
    all_goals first | exact hw.elim | skip
    obtain ⟨v, v', rfl, hd, hd'⟩ := hds.two
    rw [hd.int_eq, hd'.int_eq]
    exact ⟨_, _, rfl, k _ _ F H .refl (.int _) hw⟩
  | repr =>
    refine ⟨_, call_repr hK hgd hu, fun F H vs ds Qv Q hds hw k => ?_⟩
    unfold Bf.w at hw
    split at hw <;> first | (rename_i hb; cases hb) | skip
    all_goals first | exact hw.elim | skip
    obtain ⟨v, rfl, hd⟩ := hds.one
    exact ⟨F, v, _, rfl, hd, hw.1, k _ _ F H .refl (.str _) hw.2⟩
  | str =>
    refine ⟨_, call_str hK hgd hu, fun F H vs ds Qv Q hds hw k => ?_⟩
    unfold Bf.w at hw
    split at hw <;> first | (rename_i hb; cases hb) | skip
    all_goals first | exact hw.elim | skip
    · obtain ⟨v, rfl, hd⟩ := hds.one
      rw [hd.str_eq]
      exact .inl ⟨_, rfl, k _ _ F H .refl (.str _) hw⟩
    · rename_i d hn
      obtain ⟨v, rfl, hd⟩ := hds.one
      exact .inr ⟨F, v, d, rfl, hd, fun x z => hn x (by rw [z]), hw.1, k _ _ F H .refl (.str _) hw.2⟩
section
variable {X : Cx} {C : Ctx} {W : WX} {e : Expr} {es : List Expr} {ws : WA} {p pos : Pos}
theorem ve_bf (hs : SrcStays C) (hK : X.K = C.K) (hc : X.calm = true) (hgd : X.A.guards = some []) (hu : X.A.units + 64 < cLine) (b : Bf) (hg : Gl X b.name) (hm : X.mg b.name = none) (ha : PA X (e :: es) (cA C W ws))
    (he : starEach (e :: es) X.env = (false, eval e X.env) :: starEach es X.env) (hpl : (backTo pos (starEach es X.env)).any (·.1) = false) :
    PE X (.Call (.Name b.name p) (e :: es) [] pos) (cE C W fun ρ Q E => ws ρ (fun ds => b.w ds Q) E) := by
  obtain ⟨r, hr, hd⟩ := bf_ok (X := X) hs hK hc hgd hu b
  have hv : bootBuiltins b.name = some b.val := boot_of
  have hn : b.name ≠ "__name__" := by cases b <;> decide +kernel
  have hdb : (b.name == ("__debug__" : Str)) = false := by cases b <;> decide +kernel
  have main : ∀ (id : String), b.val = .builtin id → PE X (.Call (.Name b.name p) (e :: es) [] pos) (cE C W fun ρ Q E => ws ρ (fun ds => b.w ds Q) E) := fun id hi =>
    (pe_callB (by rw [← hi]; exact hr) hg hm (by rw [hv, hi]) ha hn hdb he hpl).imp fun _ _ _ h => tCB_c hd h
  have mainT : ∀ (id : String), b.val = .type id → PE X (.Call (.Name b.name p) (e :: es) [] pos) (cE C W fun ρ Q E => ws ρ (fun ds => b.w ds Q) E) := fun id hi =>
    (pe_callTy (by rw [← hi]; exact hr) hg hm (by rw [hv, hi]) ha hn hdb he hpl).imp fun _ _ _ h => tCB_c hd h
  cases b with
  | len => exact main _ rfl
  | abs => exact main _ rfl
  | int => exact mainT _ rfl
  | list => exact mainT _ rfl
  | tuple => exact mainT _ rfl
  | all => exact main _ rfl
  | any => exact main _ rfl
  | sum => exact main _ rfl
  | max2 => exact main _ rfl
  | min2 => exact main _ rfl
  | repr => exact main _ rfl
  | str => exact mainT _ rfl
end
end L3

/-! L3f: what is kept, once more; statements. -/
namespace L3
open PySem PySem.Spec PyProof.Rows L2

section
variable {C : Ctx} {F F' : Addr → Prop} {H H' : Hp}
theorem mem_kids_lst {a b : Addr} {xs : List V} (h : H a = some (.lst xs)) (m : V.ref b ∈ xs) : b ∈ kids H a := by
  unfold kids
  rw [h]
  exact List.mem_filterMap.mpr ⟨_, m, rfl⟩
theorem mem_kids_dK {a b : Addr} {xs : List (Key × V)} (h : H a = some (.dK xs)) (m : V.ref b ∈ xs.map (·.2)) : b ∈ kids H a := by
  unfold kids
  rw [h]
  obtain ⟨p, hp, e⟩ := List.mem_map.mp m
  exact List.mem_filterMap.mpr ⟨p, hp, by rw [e]; rfl⟩
theorem mem_kids_dT {a b : Addr} {xs : List (List Key × V)} (h : H a = some (.dT xs)) (m : V.ref b ∈ xs.map (·.2)) : b ∈ kids H a := by
  unfold kids
  rw [h]
  obtain ⟨p, hp, e⟩ := List.mem_map.mp m
  exact List.mem_filterMap.mpr ⟨p, hp, by rw [e]; rfl⟩
/-- own things that were not written, and that nobody else took -/
theorem OwnAt.keep (hs : SrcStays C) (l : Later F H F' H') : ∀ {k : Nat} {a : Addr} {d : T}, OwnAt C H F k a d → (∀ b ∈ owned H k a, H' b = H b ∧ ¬ F' b) → OwnAt C H' F' k a d
  | 0, _, _, h, _ => h
  | 1, a, d, h, hk => by
    have ha := hk a List.mem_cons_self
    exact ⟨ha.2, h.2.imp ha.1 fun xs ds r => r.later hs l⟩
  | k + 2, a, d, h, hk => by
    have ha := hk a List.mem_cons_self
    have sub : ∀ b, b ∈ kids H a → ∀ c ∈ owned H (k + 1) b, H' c = H c ∧ ¬ F' c := fun b hb c hc => hk c (List.mem_cons_of_mem _ (List.mem_flatMap.mpr ⟨b, hb, hc⟩))
    refine ⟨ha.2, ?_⟩
    rcases h.2 with ⟨xs, ds, e1, e2, r⟩ | ⟨xs, ds, e1, e2, r⟩ | ⟨xs, ds, e1, e2, r⟩
    · exact .inl ⟨xs, ds, e1, ha.1.trans e2, r.imp fun b d m q => OwnAt.keep hs l q (sub b (mem_kids_lst e2 m))⟩
    · exact .inr (.inl ⟨xs, ds, e1, ha.1.trans e2, r.imp fun b d m q => OwnAt.keep hs l q (sub b (mem_kids_dK e2 m))⟩)
    · exact .inr (.inr ⟨xs, ds, e1, ha.1.trans e2, r.imp fun b d m q => OwnAt.keep hs l q (sub b (mem_kids_dT e2 m))⟩)
theorem owned_keep : ∀ {k : Nat} {a : Addr}, (∀ b ∈ owned H k a, H' b = H b) → owned H' k a = owned H k a
  | 0, _, _ => rfl
  | 1, _, _ => rfl
  | k + 2, a, hk => by
    have ha := hk a List.mem_cons_self
    have e : kids H' a = kids H a := by unfold kids; rw [ha]
    show a :: (kids H' a).flatMap (owned H' (k + 1)) = a :: (kids H a).flatMap (owned H (k + 1))
    rw [e]
    congr 1
    have : ∀ l : List Addr, (∀ c ∈ l, ∀ b ∈ owned H (k + 1) c, H' b = H b) → l.flatMap (owned H' (k + 1)) = l.flatMap (owned H (k + 1)) := by
      intro l
      induction l with
      | nil => intro _; rfl
      | cons c l ih =>
        intro hc
        rw [List.flatMap_cons, List.flatMap_cons, owned_keep (hc c List.mem_cons_self), ih fun c' m => hc c' (List.mem_cons_of_mem _ m)]
    exact this _ fun c hc b hb => hk b (List.mem_cons_of_mem _ (List.mem_flatMap.mpr ⟨c, hc, hb⟩))
theorem ownI_keep {ρ : Rho} {σ : L2.St} {i : Nat} (hk : ∀ b ∈ ownI H ρ σ i, H' b = H b) : ownI H' ρ σ i = ownI H ρ σ i := by
  unfold ownI ownS at *
  split at hk
  · exact owned_keep hk
  · rfl
theorem ownI_own {ρ : Rho} {σ : L2.St} {i k : Nat} {d : T} {a : Addr} (h : ρ[i]? = some (.own k d)) (e : σ.getD i none = some (.ref a)) : ownI H ρ σ i = owned H k a := by
  unfold ownI
  rw [List.getD_eq_getElem?_getD, h, e]
  rfl
/-- the state goes on: no own thing is written -/
theorem RelS.keep {ρ : Rho} {σ : L2.St} (hs : SrcStays C) (l : Later F H F' H') (r : RelS C F H ρ σ) (hk : ∀ i b, b ∈ ownI H ρ σ i → H' b = H b ∧ ¬ F' b) (hd : ∀ b, F' b → ∃ o, H' b = some o) : RelS C F' H' ρ σ := by
  have e : ∀ i, ownI H' ρ σ i = ownI H ρ σ i := fun i => ownI_keep fun b hb => (hk i b hb).1
  refine ⟨r.len, fun i s hi => ?_, fun i j b h1 h2 => r.apart i j b (by rwa [e] at h1) (by rwa [e] at h2), fun i => by rw [e]; exact r.nodup i, fun i b hb => ?_, hd⟩
  · have q := r.slot i s hi
    cases s with
    | un => trivial
    | sh d => obtain ⟨v, e, h⟩ := q; exact ⟨v, e, h.later hs l⟩
    | own k d =>
      obtain ⟨a, e, h⟩ := q
      refine ⟨a, e, h.keep hs l fun b hb => hk i b ?_⟩
      rw [ownI_own hi e]
      exact hb
  · rw [e] at hb
    obtain ⟨h1, o, ho, lo⟩ := r.live i b hb
    exact ⟨(hk i b hb).2, o, (hk i b hb).1.trans ho, lo⟩
theorem getD_set_self {α : Type} {l : List α} {i : Nat} {x d : α} (h : i < l.length) : (l.set i x).getD i d = x := by
  rw [List.getD_eq_getElem?_getD, List.getElem?_set_self h]; rfl
theorem getD_set_ne {α : Type} {l : List α} {i j : Nat} {x d : α} (h : i ≠ j) : (l.set i x).getD j d = l.getD j d := by
  rw [List.getD_eq_getElem?_getD, List.getElem?_set_ne h, ← List.getD_eq_getElem?_getD]
theorem getD_set_out {α : Type} {l : List α} {i : Nat} {x : α} (h : l.length ≤ i) : l.set i x = l := List.set_eq_of_length_le h
/-- what slot i held is forgotten -/
theorem RelS.forget {ρ : Rho} {σ : L2.St} (r : RelS C F H ρ σ) (i : Nat) (x : Option V) : RelS C F H (ρ.set i .un) (σ.set i x) := by
  have e : ∀ j b, b ∈ ownI H (ρ.set i .un) (σ.set i x) j → j ≠ i ∧ b ∈ ownI H ρ σ j := fun j b hb => by
    by_cases hj : j = i
    · subst hj
      exfalso
      unfold ownI at hb
      by_cases hl : j < ρ.length
      · rw [getD_set_self hl] at hb
        cases hb
      · rw [getD_set_out (Nat.le_of_not_lt hl), List.getD_eq_getElem?_getD, List.getElem?_eq_none (Nat.le_of_not_lt hl)] at hb
        cases hb
    · refine ⟨hj, ?_⟩
      unfold ownI at hb
      rw [getD_set_ne (Ne.symm hj), getD_set_ne (Ne.symm hj)] at hb
      exact hb
  refine ⟨by simpa using r.len, fun j s hs => ?_, fun j j' b h1 h2 => r.apart j j' b (e j b h1).2 (e j' b h2).2, fun j => ?_, fun j b hb => r.live j b (e j b hb).2, r.dom⟩
  · by_cases hj : j = i
    · subst hj
      have : s = .un := by
        rw [List.getElem?_set] at hs
        split at hs
        · split at hs
          · exact (Option.some.inj hs).symm
          · cases hs
        · rename_i z; exact absurd rfl z
      subst this
      trivial
    · rw [List.getElem?_set_ne (Ne.symm hj)] at hs
      rw [getD_set_ne (Ne.symm hj)]
      exact r.slot j s hs
  · by_cases hj : j = i
    · subst hj
      have : ownI H (ρ.set j .un) (σ.set j x) j = [] := by
        cases q : ownI H (ρ.set j .un) (σ.set j x) j with
        | nil => rfl
        | cons b l => exact absurd rfl (e j b (by rw [q]; exact List.mem_cons_self)).1
      rw [this]
      exact List.nodup_nil
    · have : ownI H (ρ.set i .un) (σ.set i x) j = ownI H ρ σ j := by
        unfold ownI
        rw [getD_set_ne (Ne.symm hj), getD_set_ne (Ne.symm hj)]
      rw [this]
      exact r.nodup j
/-- a shared tree into slot i -/
theorem RelS.setSh {ρ : Rho} {σ : L2.St} (r : RelS C F H ρ σ) {i : Nat} {v : V} {d : T} (h : D C H F v d) : RelS C F H (ρ.set i (.sh d)) (σ.set i (some v)) := by
  have q := r.forget i (some v)
  have e : ∀ j, ownI H (ρ.set i (.sh d)) (σ.set i (some v)) j = ownI H (ρ.set i .un) (σ.set i (some v)) j := fun j => by
    unfold ownI
    by_cases hj : i = j
    · subst hj
      by_cases hl : i < ρ.length
      · rw [getD_set_self hl, getD_set_self hl]; rfl
      · rw [getD_set_out (Nat.le_of_not_lt hl), getD_set_out (Nat.le_of_not_lt hl)]
    · rw [getD_set_ne hj, getD_set_ne hj, getD_set_ne hj]
  refine ⟨by simpa using r.len, fun j s hs => ?_, fun j j' b h1 h2 => q.apart j j' b (by rwa [e] at h1) (by rwa [e] at h2), fun j => by rw [e]; exact q.nodup j, fun j b hb => q.live j b (by rwa [e] at hb), r.dom⟩
  by_cases hj : i = j
  · subst hj
    by_cases hl : i < ρ.length
    · rw [List.getElem?_set_self hl] at hs
      cases hs
      rw [getD_set_self (by rw [← r.len]; exact hl)]
      exact ⟨v, rfl, h⟩
    · rw [List.getElem?_eq_none (by simpa using hl)] at hs
      cases hs
  · rw [List.getElem?_set_ne hj] at hs
    rw [getD_set_ne hj]
    exact r.slot j s hs
/-- an own thing into slot i -/
theorem RelS.setOwn {ρ : Rho} {σ : L2.St} (r : RelS C F H ρ σ) {i k : Nat} {a : Addr} {d : T} (h : OwnAt C H F k a d) (nd : (owned H k a).Nodup) (lv : ∀ b ∈ owned H k a, ¬ F b ∧ ∃ o, H b = some o ∧ LD o)
    (ap : ∀ j b, j ≠ i → b ∈ ownI H ρ σ j → b ∉ owned H k a) : RelS C F H (ρ.set i (.own k d)) (σ.set i (some (.ref a))) := by
  by_cases hl : i < ρ.length
  · have q := r.forget i (some (.ref a))
    have e1 : ownI H (ρ.set i (.own k d)) (σ.set i (some (.ref a))) i = owned H k a := by
      unfold ownI
      rw [getD_set_self hl, getD_set_self (by rw [← r.len]; exact hl)]
      rfl
    have e2 : ∀ j, j ≠ i → ownI H (ρ.set i (.own k d)) (σ.set i (some (.ref a))) j = ownI H ρ σ j := fun j hj => by
      unfold ownI
      rw [getD_set_ne (Ne.symm hj), getD_set_ne (Ne.symm hj)]
    refine ⟨by simpa using r.len, fun j s hs => ?_, fun j j' b h1 h2 => ?_, fun j => ?_, fun j b hb => ?_, r.dom⟩
    · by_cases hj : i = j
      · subst hj
        rw [List.getElem?_set_self hl] at hs
        cases hs
        rw [getD_set_self (by rw [← r.len]; exact hl)]
        exact ⟨a, rfl, h⟩
      · rw [List.getElem?_set_ne hj] at hs
        rw [getD_set_ne hj]
        exact r.slot j s hs
    · by_cases hj : j = i
      · subst hj
        by_cases hj' : j' = j
        · exact hj'.symm
        · rw [e1] at h1
          rw [e2 j' hj'] at h2
          exact absurd h1 (ap j' b hj' h2)
      · by_cases hj' : j' = i
        · subst hj'
          rw [e2 j hj] at h1
          rw [e1] at h2
          exact absurd h2 (ap j b hj h1)
        · rw [e2 j hj] at h1
          rw [e2 j' hj'] at h2
          exact r.apart j j' b h1 h2
    · by_cases hj : j = i
      · subst hj; rw [e1]; exact nd
      · rw [e2 j hj]; exact r.nodup j
    · by_cases hj : j = i
      · subst hj; rw [e1] at hb; exact lv b hb
      · rw [e2 j hj] at hb; exact r.live j b hb
  · have h1 : ρ.set i (.own k d) = ρ := getD_set_out (Nat.le_of_not_lt hl)
    have h2 : σ.set i (some (.ref a)) = σ := getD_set_out (by rw [← r.len]; exact Nat.le_of_not_lt hl)
    rw [h1, h2]
    exact r
/-- a write to an own list or dict -/
theorem Later.write {a : Addr} {o o' : HO} (hf : ¬ F a) (h : H a = some o) (lo : LD o) : Later F H F (upd H a o') := by
  refine ⟨fun b u nl r => ?_, fun b u fb _ e => ?_, fun _ z => z⟩
  · have hb : b ≠ a := fun z => by
      subst z
      rw [h] at r; cases r; exact nl lo
    rw [upd_ne hb]; exact r
  · have hb : b ≠ a := fun z => by subst z; exact hf fb
    rw [upd_ne hb]; exact e
end

/-! ### slots that may be read by others from now on -/
def frz1 (ρ : Rho) (i : Nat) : Rho :=
  match ρ[i]? with
  | some (.own _ d) => ρ.set i (.sh d)
  | _ => ρ
def frz (ρ : Rho) (l : List Nat) : Rho := l.foldl frz1 ρ
section
variable {C : Ctx} {F F' : Addr → Prop} {H H' : Hp}
theorem OwnAt.frozen (hs : SrcStays C) : ∀ {k : Nat} {a : Addr} {d : T} {F' : Addr → Prop}, OwnAt C H F k a d → (∀ b, F b → F' b) → (∀ b ∈ owned H k a, F' b) → D C H F' (.ref a) d
  | 0, _, _, _, h, _, _ => h.elim
  | 1, a, d, F', h, hf, ho => by
    have l : Later F H F' H := ⟨fun _ _ _ z => z, fun _ _ _ _ z => z, hf⟩
    have ha := ho a List.mem_cons_self
    rcases h.2 with ⟨xs, ds, e1, e2, r⟩ | ⟨xs, ds, e1, e2, r⟩ | ⟨xs, ds, e1, e2, r⟩
    · subst e1; exact .lst e2 ha (r.later hs l)
    · subst e1; exact .dctK e2 ha (r.later hs l)
    · subst e1; exact .dctT e2 ha (r.later hs l)
  | k + 2, a, d, F', h, hf, ho => by
    have ha := ho a List.mem_cons_self
    have sub : ∀ b, b ∈ kids H a → ∀ c ∈ owned H (k + 1) b, F' c := fun b hb c hc => ho c (List.mem_cons_of_mem _ (List.mem_flatMap.mpr ⟨b, hb, hc⟩))
    have go : ∀ {vs : List V} {ds : List T}, OwnL (OwnAt C H F (k + 1)) vs ds → (∀ b, V.ref b ∈ vs → b ∈ kids H a) → Ds C H F' vs ds := by
      intro vs ds r
      induction r with
      | nil => intro _; exact .nil
      | cons h1 _ ih =>
        intro hm
        exact .cons (OwnAt.frozen hs h1 hf (sub _ (hm _ List.mem_cons_self))) (ih fun b m => hm b (List.mem_cons_of_mem _ m))
    rcases h.2 with ⟨xs, ds, e1, e2, r⟩ | ⟨xs, ds, e1, e2, r⟩ | ⟨xs, ds, e1, e2, r⟩
    · subst e1; exact .lst e2 ha (go r fun b m => mem_kids_lst e2 m)
    · subst e1; exact .dctK e2 ha (go r fun b m => mem_kids_dK e2 m)
    · subst e1; exact .dctT e2 ha (go r fun b m => mem_kids_dT e2 m)
theorem RelS.frz1 {ρ : Rho} {σ : L2.St} (hs : SrcStays C) (r : RelS C F H ρ σ) (i : Nat) : ∃ F', (∀ b, F b → F' b) ∧ (∀ b, F' b → F b ∨ ∃ j, b ∈ ownI H ρ σ j) ∧ RelS C F' H (L3.frz1 ρ i) σ ∧ (∀ j b, b ∈ ownI H (L3.frz1 ρ i) σ j → b ∈ ownI H ρ σ j) := by
  unfold L3.frz1
  split
  · rename_i k d hi
    obtain ⟨a, ea, ho⟩ := r.slot i _ hi
    have oi : ownI H ρ σ i = owned H k a := ownI_own hi ea
    have hlt : i < ρ.length := (List.getElem?_eq_some_iff.mp hi).1
    have hlt' : i < σ.length := by rw [← r.len]; exact hlt
    have es : σ.set i (some (.ref a)) = σ := by
      have e2 : σ[i]? = some (some (.ref a)) := by
        rw [List.getD_eq_getElem?_getD, List.getElem?_eq_getElem hlt'] at ea
        rw [List.getElem?_eq_getElem hlt']
        exact congrArg some ea
      refine List.ext_getElem? fun j => ?_
      by_cases hj : i = j
      · subst hj; rw [List.getElem?_set_self hlt', e2]
      · rw [List.getElem?_set_ne hj]
    let F' : Addr → Prop := fun b => F b ∨ b ∈ owned H k a
    have l : Later F H F' H := ⟨fun _ _ _ z => z, fun _ _ _ _ z => z, fun _ z => .inl z⟩
    have f1 := r.forget i (some (.ref a))
    rw [es] at f1
    have own' : ∀ j b, b ∈ ownI H (ρ.set i .un) σ j → j ≠ i ∧ b ∈ ownI H ρ σ j := fun j b hb => by
      by_cases hj : j = i
      · subst hj
        unfold ownI at hb
        rw [getD_set_self hlt] at hb
        cases hb
      · refine ⟨hj, ?_⟩
        unfold ownI at hb ⊢
        rw [getD_set_ne (Ne.symm hj)] at hb
        exact hb
    have f2 : RelS C F' H (ρ.set i .un) σ := f1.keep hs l (fun j b hb => ⟨rfl, fun z => by
      obtain ⟨hj, hb'⟩ := own' j b hb
      rcases z with z | z
      · exact (r.live j b hb').1 z
      · exact hj (r.apart j i b hb' (by rw [oi]; exact z))⟩) fun b z => z.elim (r.dom b) fun m => by
        obtain ⟨_, o, ho, _⟩ := r.live i b (by rw [oi]; exact m)
        exact ⟨o, ho⟩
    have f3 := f2.setSh (i := i) (v := .ref a) (d := d) (ho.frozen hs (fun _ z => .inl z) fun _ z => .inr z)
    rw [es, List.set_set] at f3
    refine ⟨F', fun _ z => .inl z, fun b z => z.imp id fun m => ⟨i, by rw [oi]; exact m⟩, f3, fun j b hb => ?_⟩
    by_cases hj : j = i
    · subst hj
      unfold ownI at hb
      rw [getD_set_self hlt] at hb
      cases hb
    · unfold ownI at hb ⊢
      rw [getD_set_ne (Ne.symm hj)] at hb
      exact hb
  · exact ⟨F, fun _ z => z, fun _ z => .inl z, r, fun _ _ z => z⟩
theorem RelS.frz {σ : L2.St} (hs : SrcStays C) (l : List Nat) : ∀ {ρ : Rho} {F : Addr → Prop}, RelS C F H ρ σ → ∃ F', (∀ b, F b → F' b) ∧ (∀ b, F' b → F b ∨ ∃ j, b ∈ ownI H ρ σ j) ∧ RelS C F' H (L3.frz ρ l) σ ∧ (∀ j b, b ∈ ownI H (L3.frz ρ l) σ j → b ∈ ownI H ρ σ j) := by
  induction l with
  | nil => intro ρ F r; exact ⟨F, fun _ z => z, fun _ z => .inl z, r, fun _ _ z => z⟩
  | cons i l ih =>
    intro ρ F r
    obtain ⟨F1, a1, a2, r1, a3⟩ := r.frz1 hs i
    obtain ⟨F2, b1, b2, r2, b3⟩ := ih r1
    refine ⟨F2, fun b z => b1 b (a1 b z), fun b z => ?_, r2, fun j b z => a3 j b (b3 j b z)⟩
    rcases b2 b z with q | ⟨j, q⟩
    · exact a2 b q
    · exact .inr ⟨j, a3 j b q⟩
end
end L3

/-! L3g: statements. -/
namespace L3
open PySem PySem.Spec PyProof.Rows L2

/-- from (F0, H0) on nothing is written but what is of P (or new) -/
structure Base (P : Addr → Prop) (F0 : Addr → Prop) (H0 : Hp) (F : Addr → Prop) (H : Hp) : Prop where
  same : ∀ b o, H0 b = some o → ¬ P b → H b = some o
  fz : ∀ b, F0 b → F b
  new : ∀ b, F b → F0 b ∨ H0 b = none ∨ P b
theorem Base.refl {P F : Addr → Prop} {H : Hp} : Base P F H F H := ⟨fun _ _ h _ => h, fun _ h => h, fun _ h => .inl h⟩
theorem Base.ext {P F0 F F' : Addr → Prop} {H0 H H' : Hp} (a : Base P F0 H0 F H) (x : Ext F H F' H') : Base P F0 H0 F' H' :=
  ⟨fun b o h n => x.same b o (a.same b o h n), fun b h => x.fz b (a.fz b h), fun b h => by
    rcases x.new b h with z | ⟨z, _⟩
    · exact a.new b z
    · cases e : H0 b with
      | none => exact .inr (.inl rfl)
      | some o =>
        refine .inr (.inr (Classical.byContradiction fun n => ?_))
        rw [a.same b o e n] at z; cases z⟩
theorem Base.toExt {F0 F : Addr → Prop} {H0 H : Hp} (a : Base (fun _ => False) F0 H0 F H) (d : ∀ b, F b → ∃ o, H b = some o) : Ext F0 H0 F H :=
  ⟨fun b o h => a.same b o h fun z => z, a.fz, fun b h => (a.new b h).imp id fun z => ⟨z.elim id False.elim, d b h⟩⟩

/-- what is wanted behind a statement, by trees; rt: k = 0 a shared tree, k above 0 an own one -/
structure Dv where
  nx : Rho → Prop
  rt : Nat → T → Prop
  bk : Rho → Prop := fun _ => False
  ct : Rho → Prop := fun _ => False
  ex : Rho → Ex → Prop := fun _ _ => False
abbrev WS := Rho → Dv → Prop

structure St (C : Ctx) (P F0 : Addr → Prop) (H0 : Hp) (F : Addr → Prop) (H : Hp) (ρ : Rho) (σ : L2.St) : Prop where
  rel : RelS C F H ρ σ
  base : Base P F0 H0 F H
  mine : ∀ i b, b ∈ ownI H ρ σ i → H0 b = none ∨ P b
structure Out (C : Ctx) (W : WX) (P F0 : Addr → Prop) (H0 : Hp) (Dv : Dv) (N : Ends) : Prop where
  nx : ∀ ρ σ F H, St C P F0 H0 F H ρ σ → Dv.nx ρ → N.nx σ H
  bk : ∀ ρ σ F H, St C P F0 H0 F H ρ σ → Dv.bk ρ → N.bk σ H
  ct : ∀ ρ σ F H, St C P F0 H0 F H ρ σ → Dv.ct ρ → N.ct σ H
  r0 : ∀ v d F H, Base P F0 H0 F H → (∀ b, F b → ∃ o, H b = some o) → D C H F v d → Dv.rt 0 d → N.rt v H
  rk : ∀ k a d F H, Base P F0 H0 F H → (∀ b, F b → ∃ o, H b = some o) → OwnAt C H F (k + 1) a d → (owned H (k + 1) a).Nodup → (∀ b ∈ owned H (k + 1) a, (H0 b = none ∨ P b) ∧ ¬ F b ∧ ∃ o, H b = some o ∧ LD o) → Dv.rt (k + 1) d → N.rt (.ref a) H
  ex : ∀ cls dx ρ σ F H x, St C P F0 H0 F H ρ σ → ExR C F H cls dx x → Dv.ex ρ x → W cls dx σ H
def cS (C : Ctx) (W : WX) (w : WS) : TS := fun D σ H => ∃ P F0 H0 F ρ Dv, St C P F0 H0 F H ρ σ ∧ w ρ Dv ∧ Out C W P F0 H0 Dv D

section
variable {C : Ctx} {W : WX} {P F0 F F' : Addr → Prop} {H0 H H' : Hp} {ρ : Rho} {σ : L2.St}
theorem ownI_exts (r : RelS C F H ρ σ) (x : Ext F H F' H') (i : Nat) : ownI H' ρ σ i = ownI H ρ σ i := ownI_ext (fun b o h _ => x.same b o h) i fun b hb => (r.live i b hb).2
theorem St.ext (hs : SrcStays C) (s : St C P F0 H0 F H ρ σ) (x : Ext F H F' H') : St C P F0 H0 F' H' ρ σ :=
  ⟨s.rel.ext hs x, s.base.ext x, fun i b hb => s.mine i b (by rwa [ownI_exts s.rel x] at hb)⟩
theorem St.back {F1 F2 : Addr → Prop} {H2 : Hp} (hs : SrcStays C) (s : St C P F0 H0 F H ρ σ) (x : Ext F1 H F2 H2) : St C P F0 H0 F H2 ρ σ := s.ext hs ⟨x.same, fun _ z => z, fun _ z => .inl z⟩
theorem St.frz (hs : SrcStays C) (s : St C P F0 H0 F H ρ σ) (l : List Nat) : ∃ F', St C P F0 H0 F' H (L3.frz ρ l) σ := by
  obtain ⟨F', a1, a2, r, a3⟩ := s.rel.frz hs l
  refine ⟨F', r, ⟨s.base.same, fun b h => a1 b (s.base.fz b h), fun b h => ?_⟩, fun i b hb => s.mine i b (a3 i b hb)⟩
  rcases a2 b h with z | ⟨j, z⟩
  · exact s.base.new b z
  · exact .inr (s.mine j b z)
theorem St.setSh (s : St C P F0 H0 F H ρ σ) {i : Nat} {v : V} {d : T} (h : D C H F v d) : St C P F0 H0 F H (ρ.set i (.sh d)) (σ.set i (some v)) := by
  refine ⟨s.rel.setSh h, s.base, fun j b hb => ?_⟩
  unfold ownI at hb
  by_cases hj : i = j
  · subst hj
    by_cases hl : i < ρ.length
    · rw [getD_set_self hl] at hb; cases hb
    · rw [getD_set_out (Nat.le_of_not_lt hl), getD_set_out (by rw [← s.rel.len]; exact Nat.le_of_not_lt hl)] at hb
      exact s.mine i b hb
  · rw [getD_set_ne hj, getD_set_ne hj] at hb
    exact s.mine j b hb
theorem St.setOwn (s : St C P F0 H0 F H ρ σ) {i k : Nat} {a : Addr} {d : T} (h : OwnAt C H F k a d) (nd : (owned H k a).Nodup) (lv : ∀ b ∈ owned H k a, ¬ F b ∧ (∃ o, H b = some o ∧ LD o) ∧ (H0 b = none ∨ P b))
    (ap : ∀ j b, j ≠ i → b ∈ ownI H ρ σ j → b ∉ owned H k a) : St C P F0 H0 F H (ρ.set i (.own k d)) (σ.set i (some (.ref a))) := by
  refine ⟨s.rel.setOwn h nd (fun b hb => ⟨(lv b hb).1, (lv b hb).2.1⟩) ap, s.base, fun j b hb => ?_⟩
  unfold ownI at hb
  by_cases hj : i = j
  · subst hj
    by_cases hl : i < ρ.length
    · rw [getD_set_self hl, getD_set_self (by rw [← s.rel.len]; exact hl)] at hb
      exact (lv b hb).2.2
    · rw [getD_set_out (Nat.le_of_not_lt hl), getD_set_out (by rw [← s.rel.len]; exact Nat.le_of_not_lt hl)] at hb
      exact s.mine i b hb
  · rw [getD_set_ne hj, getD_set_ne hj] at hb
    exact s.mine j b hb
/-- an exception out of an expression -/
theorem Out.exo {Dv : Dv} {D : Ends} (hs : SrcStays C) (o : Out C W P F0 H0 Dv D) (s : St C P F0 H0 F H ρ σ) : ExOut C W F H σ (Dv.ex ρ) :=
  fun cls dx F' H' x e r q => o.ex cls dx ρ σ F' H' x (s.ext hs e) r q
end

section
variable {X : Cx} {C : Ctx} {W : WX} {st : Stmt} {rest : List Stmt} {w w' : WS} {e : Expr} {we : WE} {pos : Pos}
theorem vss_nil : PSs X [] (cS C W fun ρ D => D.nx ρ) := pss_nil.imp fun D σ H ⟨P, F0, H0, F, ρ, Dv, s, q, o⟩ => o.nx ρ σ F H s q
theorem vss_cons (h1 : PS X st (cS C W w)) (h2 : PSs X rest (cS C W w')) : PSs X (st :: rest) (cS C W fun ρ D => w ρ { D with nx := fun ρ' => w' ρ' D }) :=
  (pss_cons h1 h2).imp fun D σ H ⟨P, F0, H0, F, ρ, Dv, s, q, o⟩ => ⟨P, F0, H0, F, ρ, _, s, q, ⟨fun ρ1 σ1 F1 H1 s1 q1 => ⟨P, F0, H0, F1, ρ1, Dv, s1, q1, o⟩, o.bk, o.ct, o.r0, o.rk, o.ex⟩⟩
theorem vs_pass : PS X (.Pass pos) (cS C W fun ρ D => D.nx ρ) := ps_pass.imp fun D σ H ⟨P, F0, H0, F, ρ, Dv, s, q, o⟩ => o.nx ρ σ F H s q
theorem vs_break : PS X (.Break pos) (cS C W fun ρ D => D.bk ρ) := ps_break.imp fun D σ H ⟨P, F0, H0, F, ρ, Dv, s, q, o⟩ => o.bk ρ σ F H s q
theorem vs_cont : PS X (.Continue pos) (cS C W fun ρ D => D.ct ρ) := ps_continue.imp fun D σ H ⟨P, F0, H0, F, ρ, Dv, s, q, o⟩ => o.ct ρ σ F H s q
theorem vs_never : PS X st (cS C W fun _ _ => False) := ⟨fun pins s σ H D I ⟨_, _, _, _, _, _, _, q, _⟩ => q.elim⟩
theorem vs_retN : PS X (.Return none pos) (cS C W fun _ D => D.rt 0 .non) := ps_retN.imp fun D σ H ⟨P, F0, H0, F, ρ, Dv, s, q, o⟩ => o.r0 .non .non F H s.base s.rel.dom .non q
/-- return e, whatever it is made of -/
theorem vs_ret (hs : SrcStays C) (l : List Nat) (he : PE X e (cE C W we)) : PS X (.Return (some e) pos) (cS C W fun ρ D => we (frz ρ l) (D.rt 0) (D.ex (frz ρ l))) :=
  (ps_ret he).imp fun D σ H ⟨P, F0, H0, F, ρ, Dv, s, q, o⟩ => by
    obtain ⟨F', s'⟩ := s.frz hs l
    exact ⟨F', _, _, _, s'.rel, q, fun v d F2 H2 x hd q2 => o.r0 v d F2 H2 (s'.base.ext x) (s'.rel.ext hs x).dom hd q2, o.exo hs s'⟩
/-- return name, a name of the frame's own -/
theorem vs_retOwn {i : Nat} {y : Expr} (hv : PE X y (tVar i)) : PS X (.Return (some y) pos) (cS C W fun ρ D => ∃ k d, ρ[i]? = some (.own (k + 1) d) ∧ D.rt (k + 1) d) :=
  (ps_ret hv).imp fun D σ H ⟨P, F0, H0, F, ρ, Dv, s, ⟨k, d, hi, q⟩, o⟩ => by
    obtain ⟨a, ea, ho⟩ := s.rel.slot i _ hi
    have oi : ownI H ρ σ i = owned H (k + 1) a := ownI_own hi ea
    have hlt : i < σ.length := by rw [← s.rel.len]; exact (List.getElem?_eq_some_iff.mp hi).1
    refine ⟨.ref a, ?_, ?_⟩
    · rw [List.getD_eq_getElem?_getD, List.getElem?_eq_getElem hlt] at ea
      rw [List.getElem?_eq_getElem hlt]
      exact congrArg some ea
    · refine o.rk k a d F H s.base s.rel.dom ho (by rw [← oi]; exact s.rel.nodup i) (fun b hb => ?_) q
      rw [← oi] at hb
      exact ⟨s.mine i b hb, s.rel.live i b hb⟩
/-- return e, e a new thing -/
theorem vs_retF (hs : SrcStays C) {k : Nat} (l : List Nat) (he : PE X e (cF C W (k + 1) we)) : PS X (.Return (some e) pos) (cS C W fun ρ D => we (frz ρ l) (D.rt (k + 1)) (D.ex (frz ρ l))) :=
  (ps_ret he).imp fun D σ H ⟨P, F0, H0, F, ρ, Dv, s, q, o⟩ => by
    obtain ⟨F', s'⟩ := s.frz hs l
    refine ⟨F', _, _, _, s'.rel, q, fun a d F2 H2 x ho nd lv q2 => o.rk k a d F2 H2 (s'.base.ext x) (s'.rel.ext hs x).dom ho nd (fun b hb => ?_) q2, o.exo hs s'⟩
    obtain ⟨h1, h2, h3⟩ := lv b hb
    refine ⟨?_, h1, h3⟩
    cases e : H0 b with
    | none => exact .inl rfl
    | some ob =>
      refine .inr (Classical.byContradiction fun n => ?_)
      rw [s'.base.same b ob e n] at h2; cases h2
/-- an expression whose value is dropped -/
theorem vs_expr (hs : SrcStays C) (l : List Nat) (he : PE X e (cE C W we)) (hw : swapsWith e none pos.line X.env = pure false) : PS X (.Expr e pos) (cS C W fun ρ D => we (frz ρ l) (fun _ => D.nx ρ) (D.ex (frz ρ l))) :=
  (ps_expr he hw).imp fun D σ H ⟨P, F0, H0, F, ρ, Dv, s, q, o⟩ => by
    obtain ⟨F', s'⟩ := s.frz hs l
    exact ⟨F', _, _, _, s'.rel, q, fun v d F2 H2 x hd q2 => o.nx _ σ F H2 (s.back hs x) q2, o.exo hs s'⟩
/-- target = e -/
abbrev WG := T → Rho → (Rho → Prop) → Prop
/-- a target that takes shared trees -/
def cG (C : Ctx) (vs : List Nat) (g : WG) : TG := fun v σ H Q => ∃ P F0 H0 F ρ d R, St C P F0 H0 F H ρ σ ∧ D C H F v d ∧ g d ρ R ∧ ∀ ρ' σ' F' H', St C P F0 H0 F' H' ρ' σ' → Ext F H F' H' → wipe σ' vs = wipe σ vs → R ρ' → Q σ' H'
def cGs (C : Ctx) (is : List Nat) (g : List T → Rho → (Rho → Prop) → Prop) : TGs := fun vs σ H Q => ∃ P F0 H0 F ρ ds R, St C P F0 H0 F H ρ σ ∧ Ds C H F vs ds ∧ g ds ρ R ∧ ∀ ρ' σ' F' H', St C P F0 H0 F' H' ρ' σ' → Ext F H F' H' → wipe σ' is = wipe σ is → R ρ' → Q σ' H'
theorem wipe_set {σ : L2.St} {i : Nat} {x : Option V} : ∀ {vs : List Nat}, i ∈ vs → wipe (σ.set i x) vs = wipe σ vs
  | [], h => nomatch h
  | v :: vs, h => by
    unfold wipe
    by_cases e : i ∈ vs
    · rw [wipe_set e]
    · have e2 : i = v := (List.mem_cons.mp h).resolve_right e
      subst e2
      have comm : ∀ {vs : List Nat} {σ : L2.St}, i ∉ vs → wipe (σ.set i x) vs = (wipe σ vs).set i x := by
        intro vs
        induction vs with
        | nil => intro _ _; rfl
        | cons w vs ih =>
          intro σ hn
          unfold wipe
          rw [ih fun m => hn (List.mem_cons_of_mem _ m), List.set_comm _ _ fun z => hn (by rw [z]; exact List.mem_cons_self)]
      rw [comm e, List.set_set]
theorem _root_.L2.PG.imp {X : Cx} {e : Expr} {t t' : TG} (h : PG X e t) (i : ∀ v σ H Q, t' v σ H Q → t v σ H Q) : PG X e t' := ⟨fun pins s σ H v u Q I r q => h.run pins s σ H v u Q I r (i v σ H Q q)⟩
theorem _root_.L2.PGs.imp {X : Cx} {e : List Expr} {t t' : TGs} (h : PGs X e t) (i : ∀ v σ H Q, t' v σ H Q → t v σ H Q) : PGs X e t' := ⟨fun pins s σ H v u Q I r q => h.run pins s σ H v u Q I r (i v σ H Q q)⟩
theorem vg_name {i : Nat} {y : Expr} {is : List Nat} (h : PG X y (gName i)) (hi : i ∈ is) : PG X y (cG C is fun d ρ R => R (ρ.set i (.sh d))) :=
  h.imp fun v σ H Q ⟨P, F0, H0, F, ρ, d, R, s, hd, q, k⟩ => k _ _ F H (s.setSh hd) .refl (wipe_set hi) q
theorem vgs_nil {is : List Nat} : PGs X [] (cGs C is fun ds ρ R => ds = [] ∧ R ρ) :=
  pgs_nil.imp fun v σ H Q ⟨P, F0, H0, F, ρ, ds, R, s, hd, ⟨e, q⟩, k⟩ => by
    subst e
    cases hd
    exact ⟨rfl, k _ _ F H s .refl rfl q⟩
theorem vgs_cons (hs : SrcStays C) {es : List Expr} {g : WG} {gs : List T → Rho → (Rho → Prop) → Prop} {is : List Nat} (h1 : PG X e (cG C is g)) (h2 : PGs X es (cGs C is gs)) (hh : (assignEach (e :: es) X.env).map (·.2) = assign e X.env :: (assignEach es X.env).map (·.2)) :
    PGs X (e :: es) (cGs C is fun ds ρ R => ∃ d r, ds = d :: r ∧ g d ρ fun ρ1 => gs r ρ1 R) :=
  (pgs_cons h1 h2 hh).imp fun v σ H Q ⟨P, F0, H0, F, ρ, ds, R, s, hd, ⟨d, r, e, q⟩, k⟩ => by
    subst e
    cases hd with
    | cons hd1 hd2 =>
      refine ⟨_, _, rfl, P, F0, H0, F, ρ, d, _, s, hd1, q, fun ρ1 σ1 F1 H1 s1 x1 w1 q1 => ?_⟩
      exact ⟨P, F0, H0, F1, ρ1, r, R, s1, hd2.later hs x1.later, q1, fun ρ2 σ2 F2 H2 s2 x2 w2 q2 => k ρ2 σ2 F2 H2 s2 (x1.trans x2) (w2.trans w1) q2⟩
/-- (a, b, ..) = a tuple -/
theorem vg_tup {es : List Expr} {k n : Nat} {gs : List T → Rho → (Rho → Prop) → Prop} (hK : X.K = C.K) (hc : X.calm = true) {is : List Nat} (h : PGs X es (cGs C is gs)) (hn : (assignEach es X.env).length = n) (hst : (assignEach es X.env).findIdx? (·.1) = none) :
    PG X (.Tuple es k pos) (cG C is fun d ρ R => ∃ ds, d = .tup ds ∧ ds.length = n ∧ gs ds ρ R) :=
  (pg_tup hc h hn hst).imp fun v σ H Q ⟨P, F0, H0, F, ρ, d, R, s, hd, ⟨ds, e, hl, q⟩, kk⟩ => by
    subst e
    obtain ⟨a, xs, rfl, ha, hx⟩ := hd.isT
    exact ⟨a, xs, rfl, by rw [hK]; exact ha, by rw [hx.length]; exact hl, P, F0, H0, F, ρ, ds, R, s, hx, q, kk⟩
theorem vs_asg (hs : SrcStays C) {tg : Expr} {g : WG} {is : List Nat} (l : List Nat) (he : PE X e (cE C W we)) (hg : PG X tg (cG C is g)) (h1 : swapsWithSole [tg] e pos.line X.env = pure false) (h2 : swappedStores [tg] e X.env = pure none)
    (h3 : (assignEach [tg] X.env).map (·.2) = [assign tg X.env]) : PS X (.Assign [tg] e pos) (cS C W fun ρ D => we (frz ρ l) (fun d => g d (frz ρ l) D.nx) (D.ex (frz ρ l))) :=
  (ps_asg he hg h1 h2 h3).imp fun D σ H ⟨P, F0, H0, F, ρ, Dv, s, q, o⟩ => by
    obtain ⟨F', s'⟩ := s.frz hs l
    exact ⟨F', _, _, _, s'.rel, q, fun v d F2 H2 x hd q2 => ⟨P, F0, H0, F2, _, d, _, s'.ext hs x, hd, q2, fun ρ3 σ3 F3 H3 s3 x3 w3 q3 => o.nx ρ3 σ3 F3 H3 s3 q3⟩, o.exo hs s'⟩
/-- name = e -/
theorem set_c (hs : SrcStays C) {i : Nat} (l : List Nat) {D : Ends} {σ : L2.St} {H : Hp} (h : cS C W (fun ρ D => we (frz ρ l) (fun d => D.nx ((frz ρ l).set i (.sh d))) (D.ex (frz ρ l))) D σ H) : tAsg (cE C W we) (gName i) D σ H := by
  obtain ⟨P, F0, H0, F, ρ, Dv, s, q, o⟩ := h
  obtain ⟨F', s'⟩ := s.frz hs l
  exact ⟨F', _, _, _, s'.rel, q, fun v d F2 H2 x hd q2 => o.nx _ _ F2 H2 ((s'.ext hs x).setSh hd) q2, o.exo hs s'⟩
/-- name = e, a new thing, to be written to -/
theorem setF_c (hs : SrcStays C) {i k : Nat} (l : List Nat) {D : Ends} {σ : L2.St} {H : Hp} (h : cS C W (fun ρ D => we (frz ρ l) (fun d => D.nx ((frz ρ l).set i (.own k d))) (D.ex (frz ρ l))) D σ H) : tAsg (cF C W k we) (gName i) D σ H := by
  obtain ⟨P, F0, H0, F, ρ, Dv, s, q, o⟩ := h
  obtain ⟨F', s'⟩ := s.frz hs l
  refine ⟨F', _, _, _, s'.rel, q, fun a d F2 H2 x ho nd lv q2 => ?_, o.exo hs s'⟩
  have s2 := s'.ext hs x
  refine o.nx _ _ F2 H2 (s2.setOwn ho nd (fun b hb => ?_) fun j b hj hb hb2 => ?_) q2
  · obtain ⟨h1, h2, h3⟩ := lv b hb
    refine ⟨h1, h3, ?_⟩
    cases e : H0 b with
    | none => exact .inl rfl
    | some ob =>
      refine .inr (Classical.byContradiction fun n => ?_)
      rw [s'.base.same b ob e n] at h2; cases h2
  · rw [ownI_exts s'.rel x] at hb
    obtain ⟨_, ob, e, _⟩ := s'.rel.live j b hb
    rw [(lv b hb2).2.1] at e; cases e
/-- neither a list nor a tuple nor whatever else is told by an address -/
def flatT : T → Bool
  | .non => true
  | .bl _ => true
  | .int _ => true
  | .str _ => true
  | _ => false
theorem D.flat {C : Ctx} {F F' : Addr → Prop} {H H' : Hp} {v : V} {d : T} (h : D C H F v d) (hf : flatT d = true) : D C H' F' v d := by
  cases h <;> first | exact .non | exact .bl _ | exact .int _ | exact .str _ | (cases hf)
/-- name = e, a number or a text of it -/
theorem setB_c (hs : SrcStays C) {i : Nat} (l : List Nat) {D : Ends} {σ : L2.St} {H : Hp} (h : cS C W (fun ρ D => we (frz ρ l) (fun d => flatT d = true ∧ D.nx (ρ.set i (.sh d))) (D.ex (frz ρ l))) D σ H) : tAsg (cE C W we) (gName i) D σ H := by
  obtain ⟨P, F0, H0, F, ρ, Dv, s, q, o⟩ := h
  obtain ⟨F', s'⟩ := s.frz hs l
  exact ⟨F', _, _, _, s'.rel, q, fun v d F2 H2 x hd q2 => o.nx _ _ F H2 ((s.back hs x).setSh (hd.flat q2.1)) q2.2, o.exo hs s'⟩
theorem vs_if (hs : SrcStays C) {c : Expr} {a b : List Stmt} {wt : WT} (l : List Nat) (hc : PT X c (cT C W wt)) (ha : PSs X a (cS C W w)) (hb : PSs X b (cS C W w')) :
    PS X (.If c a b pos) (cS C W fun ρ D => wt (frz ρ l) (fun k => if k = true then w ρ D else w' ρ D) (D.ex (frz ρ l))) :=
  (ps_if hc ha hb).imp fun D σ H ⟨P, F0, H0, F, ρ, Dv, s, q, o⟩ => by
    obtain ⟨F', s'⟩ := s.frz hs l
    refine ⟨F', _, _, _, s'.rel, q, fun b F2 H2 x q2 => ?_, o.exo hs s'⟩
    cases b with
    | true => exact ⟨P, F0, H0, F, _, Dv, s.back hs x, q2, o⟩
    | false => exact ⟨P, F0, H0, F, _, Dv, s.back hs x, q2, o⟩
end
end L3

/-! L3h: what is walked; for, while, comprehensions. -/
namespace L3
open PySem PySem.Spec PyProof.Rows L2

/-- the walk J gives the trees ds, one after another, as long as the heap goes on from (F1, H1) -/
structure WalkT (C : Ctx) (J : It) (F1 : Addr → Prop) (H1 : Hp) (ds : List T) : Prop where
  go : ∀ i F H, i < ds.length → Later F1 H1 F H → J.go i H
  stop : ∀ F H, Later F1 H1 F H → J.stop ds.length H
  yld : ∀ i F H x H' d, ds[i]? = some d → Later F1 H1 F H → J.yld i H x H' → ∃ F', Ext F H F' H' ∧ D C H' F' x d
abbrev WI := Rho → (List T → Prop) → (Ex → Prop) → Prop
def cI (C : Ctx) (W : WX) (w : WI) : TI := fun σ H R => ∃ F ρ Qv Ev, RelS C F H ρ σ ∧ w ρ Qv Ev ∧ (∀ J ds F' H', Ext F H F' H' → WalkT C J F' H' ds → Qv ds → R J H') ∧ ExOut C W F H σ Ev
theorem _root_.L2.PI.imp {X : Cx} {tg e : Expr} {t t' : TI} (h : PI X tg e t) (i : ∀ σ H R, t' σ H R → t σ H R) : PI X tg e t' := ⟨fun pins s σ H R I q => h.run pins s σ H R I (i σ H R q)⟩

/-- a list or a tuple, whichever it is -/
def iSeq (K : PySem.W.Frag) (tl : TE) : TI := fun σ H R => tl σ H fun x H1 => (∃ a, x = .ref a ∧ (∃ xs, SqL K H1 a xs) ∧ R (Itl K a) H1) ∨ ∃ a, x = .ref a ∧ (∃ xs, SqT K H1 a xs) ∧ R (Itt K a) H1
theorem pi_seq {X : Cx} {tg l : Expr} {tl : TE} (hl : PE X l tl) : PI X tg l (iSeq X.K tl) := by
  refine ⟨fun pins s σ H R I h => ?_⟩
  refine thn (hl.run pins s σ H _ I h) fun v s1 ⟨x, H1, I1, r1, q1⟩ => ?_
  rcases q1 with ⟨a, e, ⟨xs, hq⟩, q⟩ | ⟨a, e, ⟨xs, hq⟩, q⟩
  · subst e
    cases r1
    obtain ⟨its, rv, p, hz⟩ := I1.list hq
    refine wpAny_pyIter_list p.isList ?_
    refine ⟨s1.heap.objs.size, [s1.heap.objs.size], _, _, H1, rfl, I1.kept (t' := s1.toks) fun b o e => Heap.get?_push_of_some _ e, turn_list a _, ⟨_, Heap.get?_push_size _ rfl, rfl, rfl⟩, fun b hb => ?_, q⟩
    have e : b = s1.heap.objs.size := by simpa using hb
    subst e
    exact I1.fpOk (Nat.le_refl _) (I1.hok.fresh (Nat.le_refl _))
  · subst e
    cases r1
    obtain ⟨its, rv, p, hz⟩ := I1.tuple hq
    refine wpAny_pyIter_tuple (show s1.heap.IsTuple a its.toArray from p) ?_
    refine ⟨s1.heap.objs.size, [s1.heap.objs.size], _, _, H1, rfl, I1.kept (t' := s1.toks) fun b o e => Heap.get?_push_of_some _ e, turn_tuple a _, ⟨_, Heap.get?_push_size _ rfl, rfl, rfl⟩, fun b hb => ?_, q⟩
    have e : b = s1.heap.objs.size := by simpa using hb
    subst e
    exact I1.fpOk (Nat.le_refl _) (I1.hok.fresh (Nat.le_refl _))
section
variable {C : Ctx} {F F' : Addr → Prop} {H H' : Hp}
theorem walkT_lst {a : Addr} {xs : List V} {ds : List T} (hs : SrcStays C) (h : H a = some (.lst xs)) (hf : F a) (hd : Ds C H F xs ds) : WalkT C (Itl C.K a) F H ds := by
  have at_ : ∀ {F2 : Addr → Prop} {H2 : Hp}, Later F H F2 H2 → SqL C.K H2 a xs := fun l => .of (l.ls a _ hf trivial h)
  refine ⟨fun i F2 H2 hi l => ?_, fun F2 H2 l => ⟨xs, at_ l, Nat.le_of_eq hd.length⟩, fun i F2 H2 x H3 d hi l y => ?_⟩
  · have hi' : i < xs.length := by rw [hd.length]; exact hi
    exact ⟨xs, xs[i], at_ l, by simp [hi']⟩
  · obtain ⟨e, y⟩ := y
    subst e
    obtain ⟨v, hv, dv⟩ := hd.get hi
    have := (y xs (at_ l)).symm.trans hv
    cases this
    exact ⟨F2, .refl, dv.later hs l⟩
theorem walkT_tup {a : Addr} {xs : List V} {ds : List T} (hs : SrcStays C) (h : SqT C.K H a xs) (hd : Ds C H F xs ds) : WalkT C (Itt C.K a) F H ds := by
  have at_ : ∀ {F2 : Addr → Prop} {H2 : Hp}, Later F H F2 H2 → SqT C.K H2 a xs := fun l => SqT.laterK h l
  refine ⟨fun i F2 H2 hi l => ?_, fun F2 H2 l => ⟨xs, at_ l, Nat.le_of_eq hd.length⟩, fun i F2 H2 x H3 d hi l y => ?_⟩
  · have hi' : i < xs.length := by rw [hd.length]; exact hi
    exact ⟨xs, xs[i], at_ l, by simp [hi']⟩
  · obtain ⟨e, y⟩ := y
    subst e
    obtain ⟨v, hv, dv⟩ := hd.get hi
    have := (y xs (at_ l)).symm.trans hv
    cases this
    exact ⟨F2, .refl, dv.later hs l⟩
/-- lo, lo + 1, .. -/
def rangeT (lo : Int) (n : Nat) : List T := (List.range n).map fun (i : Nat) => T.int (lo + (i : Int))
theorem walkT_rng {lo : Int} {n : Nat} : WalkT C (Itr lo n) F H (rangeT lo n) := by
  have hl : (rangeT lo n).length = n := by simp [rangeT]
  refine ⟨fun i F2 H2 hi l => ?_, fun F2 H2 l => ?_, fun i F2 H2 x H3 d hi l y => ?_⟩
  · rw [hl] at hi; exact hi
  · rw [hl]; exact Nat.le_refl n
  · obtain ⟨e, y⟩ := y
    subst e y
    have hi' : i < n := by
      have := (List.getElem?_eq_some_iff.mp hi).1
      rw [hl] at this; exact this
    rw [rangeT, List.getElem?_map, List.getElem?_range hi'] at hi
    cases hi
    exact ⟨F2, .refl, .int _⟩
end
section
variable {X : Cx} {C : Ctx} {W : WX} {tg e : Expr} {we : WE} {es : List Expr} {ws : WA} {p pos : Pos}
def seqT : T → Option (List T)
  | .lst xs => some xs
  | .tup xs => some xs
  | _ => none
theorem vi_seq (hs : SrcStays C) (hK : X.K = C.K) (he : PE X e (cE C W we)) : PI X tg e (cI C W fun ρ Q E => we ρ (fun d => ∃ xs, seqT d = some xs ∧ Q xs) E) :=
  (pi_seq he).imp fun σ H R ⟨F, ρ, Qv, Ev, rel, q, k, ex⟩ => ⟨F, ρ, _, Ev, rel, q, fun v d F2 H2 x hd ⟨xs, e, q2⟩ => by
    rw [hK]
    unfold seqT at e
    split at e
    · cases e
      obtain ⟨a, vs, rfl, ha, fa, hx⟩ := hd.isL
      exact .inl ⟨a, rfl, ⟨vs, .of ha⟩, k _ _ F2 H2 x (walkT_lst hs ha fa hx) q2⟩
    · cases e
      obtain ⟨a, vs, rfl, ha, hx⟩ := hd.isT
      exact .inr ⟨a, rfl, ⟨vs, ha⟩, k _ _ F2 H2 x (walkT_tup hs ha hx) q2⟩
    · exact (nomatch e), ex⟩
theorem vi_range1 (hg : Gl X "range") (hm : X.mg "range" = none) (ha : PA X [e] (cA C W ws)) (h1 : starEach [e] X.env = [(false, eval e X.env)]) :
    PI X tg (.Call (.Name "range" p) [e] [] pos) (cI C W fun ρ Q E => ws ρ (fun ds => ∃ j : Int, ds = [.int j] ∧ -(2 ^ 62) ≤ j ∧ j < 2 ^ 62 ∧ Q (rangeT 0 j.toNat)) E) :=
  (pi_range1 hg hm ha h1).imp fun σ H R ⟨F, ρ, Qv, Ev, rel, q, k, ex⟩ => ⟨F, ρ, _, Ev, rel, q, fun vs ds F2 H2 x hds ⟨j, e, b1, b2, q2⟩ => by
    subst e
    obtain ⟨v, rfl, hd⟩ := hds.one
    rw [hd.int_eq]
    exact ⟨j, rfl, b1, b2, k _ _ F2 H2 x walkT_rng q2⟩, ex⟩
theorem vi_range2 {e' : Expr} (hg : Gl X "range") (hm : X.mg "range" = none) (ha : PA X [e, e'] (cA C W ws)) (h1 : starEach [e, e'] X.env = [(false, eval e X.env), (false, eval e' X.env)]) (h2 : starEach [e'] X.env = [(false, eval e' X.env)]) :
    PI X tg (.Call (.Name "range" p) [e, e'] [] pos) (cI C W fun ρ Q E => ws ρ (fun ds => ∃ i j : Int, ds = [.int i, .int j] ∧ (-(2 ^ 62) ≤ i ∧ i < 2 ^ 62 ∧ -(2 ^ 62) ≤ j ∧ j < 2 ^ 62) ∧ Q (rangeT i (j - i).toNat)) E) :=
  (pi_range2 hg hm ha h1 h2).imp fun σ H R ⟨F, ρ, Qv, Ev, rel, q, k, ex⟩ => ⟨F, ρ, _, Ev, rel, q, fun vs ds F2 H2 x hds ⟨i, j, e, b, q2⟩ => by
    subst e
    obtain ⟨v, v', rfl, hd, hd'⟩ := hds.two
    rw [hd.int_eq, hd'.int_eq]
    exact ⟨i, j, rfl, b, k _ _ F2 H2 x walkT_rng q2⟩, ex⟩
end

/-- (0, x), (1, y), .. -/
def enumT (xs : List T) : List T := xs.zipIdx.map fun p => T.tup [.int ((p.2 : Nat) : Int), p.1]
section
variable {C : Ctx} {F : Addr → Prop} {H : Hp}
theorem enumT_at {xs : List T} {i : Nat} {d : T} (h : (enumT xs)[i]? = some d) : ∃ x, xs[i]? = some x ∧ d = .tup [.int (i : Int), x] := by
  unfold enumT at h
  rw [List.getElem?_map, List.getElem?_zipIdx] at h
  cases e : xs[i]? with
  | none => rw [e] at h; cases h
  | some x =>
    rw [e] at h
    cases h
    exact ⟨x, rfl, by simp⟩
theorem enumT_len {xs : List T} : (enumT xs).length = xs.length := by simp [enumT]
theorem walkT_enL {a : Addr} {xs : List V} {ds : List T} (hs : SrcStays C) (h : H a = some (.lst xs)) (hf : F a) (hd : Ds C H F xs ds) : WalkT C (Ite C.K a) F H (enumT ds) := by
  have at_ : ∀ {F2 : Addr → Prop} {H2 : Hp}, Later F H F2 H2 → SqL C.K H2 a xs := fun l => .of (l.ls a _ hf trivial h)
  refine ⟨fun i F2 H2 hi l => ?_, fun F2 H2 l => ⟨xs, at_ l, by rw [enumT_len, hd.length]; exact Nat.le_refl _⟩, fun i F2 H2 x H3 d hi l y => ?_⟩
  · have hi' : i < xs.length := by rw [hd.length]; rw [enumT_len] at hi; exact hi
    exact ⟨xs, xs[i], at_ l, by simp [hi']⟩
  · obtain ⟨p, x1, rfl, hp, rfl, f⟩ := y
    obtain ⟨d1, h1, rfl⟩ := enumT_at hi
    obtain ⟨v, hv, dv⟩ := hd.get h1
    have := (f xs (at_ l)).symm.trans hv
    cases this
    exact ⟨F2, .new_tup hp, .tup (.of upd_same) (.cons (.int _) (.cons (dv.later hs (l.trans (Ext.new_tup hp).later)) .nil))⟩
theorem walkT_enT {a : Addr} {xs : List V} {ds : List T} (hs : SrcStays C) (h : SqT C.K H a xs) (hd : Ds C H F xs ds) : WalkT C (Ien C.K a) F H (enumT ds) := by
  have at_ : ∀ {F2 : Addr → Prop} {H2 : Hp}, Later F H F2 H2 → SqT C.K H2 a xs := fun l => SqT.laterK h l
  refine ⟨fun i F2 H2 hi l => ?_, fun F2 H2 l => ⟨xs, at_ l, by rw [enumT_len, hd.length]⟩, fun i F2 H2 x H3 d hi l y => ?_⟩
  · have hi' : i < xs.length := by rw [hd.length]; rw [enumT_len] at hi; exact hi
    exact ⟨xs, xs[i], at_ l, by simp [hi']⟩
  · obtain ⟨p, x1, rfl, hp, rfl, f⟩ := y
    obtain ⟨d1, h1, rfl⟩ := enumT_at hi
    obtain ⟨v, hv, dv⟩ := hd.get h1
    have := (f xs (at_ l)).symm.trans hv
    cases this
    exact ⟨F2, .new_tup hp, .tup (.of upd_same) (.cons (.int _) (.cons (dv.later hs (l.trans (Ext.new_tup hp).later)) .nil))⟩
variable {X : Cx} {W : WX} {e : Expr} {we : WE} {p pos tpos : Pos} {elts : List Expr} {kk : Nat}
theorem vi_enum (hs : SrcStays C) (hK : X.K = C.K) (hg : Gl X "enumerate") (hm : X.mg "enumerate" = none) (he : PE X e (cE C W we)) (h1 : starEach [e] X.env = [(false, eval e X.env)]) :
    PI X (.Tuple elts kk tpos) (.Call (.Name "enumerate" p) [e] [] pos) (cI C W fun ρ Q E => we ρ (fun d => ∃ xs, seqT d = some xs ∧ Q (enumT xs)) E) :=
  (pi_en hg hm (va_cons hs he va_nil h1) h1).imp fun σ H R ⟨F, ρ, Qv, Ev, rel, q, k, ex⟩ => ⟨F, ρ, fun ds => ∃ d, ds = [d] ∧ ∃ xs, seqT d = some xs ∧ Qv (enumT xs), Ev, rel, by
    show we ρ (fun d => ∃ d', [d] = [d'] ∧ ∃ xs, seqT d' = some xs ∧ Qv (enumT xs)) Ev
    have e1 : (fun d => ∃ d', [d] = [d'] ∧ ∃ xs, seqT d' = some xs ∧ Qv (enumT xs)) = fun d => ∃ xs, seqT d = some xs ∧ Qv (enumT xs) := by
      funext d
      refine propext ⟨fun ⟨d', z, q⟩ => by cases z; exact q, fun q => ⟨d, rfl, q⟩⟩
    rw [e1]
    exact q, fun vs ds F2 H2 x hds ⟨d, ed, xs, es, q2⟩ => by
    subst ed
    obtain ⟨v, rfl, hd⟩ := hds.one
    rw [hK]
    unfold seqT at es
    split at es
    · cases es
      obtain ⟨a, vs, rfl, ha, fa, hx⟩ := hd.isL
      exact .inl ⟨a, vs, rfl, .of ha, k _ _ F2 H2 x (walkT_enL hs ha fa hx) q2⟩
    · cases es
      obtain ⟨a, vs, rfl, ha, hx⟩ := hd.isT
      exact .inr ⟨a, vs, rfl, ha, k _ _ F2 H2 x (walkT_enT hs ha hx) q2⟩
    · exact (nomatch es), ex⟩
end

/-! ### for -/
def wFor (g : WG) (wb : WS) (D : Dv) : List T → Rho → Prop
  | [], ρ => D.nx ρ
  | d :: ds, ρ => g d ρ fun ρ1 => wb ρ1 { D with nx := wFor g wb D ds, ct := wFor g wb D ds, bk := D.nx }
section
variable {C : Ctx} {W : WX} {P F0 F F1 : Addr → Prop} {H0 H H1 : Hp} {ρ ρ1 : Rho} {σ σ1 : L2.St}
/-- what the frame owns here -/
def Mine (H : Hp) (ρ : Rho) (σ : L2.St) : Addr → Prop := fun b => ∃ i, b ∈ ownI H ρ σ i
theorem Base.trans {Q : Addr → Prop} (a : Base P F0 H0 F1 H1) (b : Base Q F1 H1 F H) (q : ∀ c, Q c → H0 c = none ∨ P c) : Base P F0 H0 F H :=
  ⟨fun c o h n => b.same c o (a.same c o h n) fun z => (q c z).elim (fun e => by rw [h] at e; cases e) n, fun c h => b.fz c (a.fz c h), fun c h => by
    rcases b.new c h with z | z | z
    · exact a.new c z
    · cases e : H0 c with
      | none => exact .inr (.inl rfl)
      | some o =>
        refine .inr (.inr (Classical.byContradiction fun n => ?_))
        rw [a.same c o e n] at z; cases z
    · exact .inr (q c z)⟩
theorem St.rebase (s : St C P F0 H0 F1 H1 ρ1 σ1) : St C (Mine H1 ρ1 σ1) F1 H1 F1 H1 ρ1 σ1 := ⟨s.rel, .refl, fun i b hb => .inr ⟨i, hb⟩⟩
theorem St.mineQ (s : St C P F0 H0 F1 H1 ρ1 σ1) : ∀ c, Mine H1 ρ1 σ1 c → H0 c = none ∨ P c := fun c ⟨i, h⟩ => s.mine i c h
theorem St.unbase (s : St C P F0 H0 F1 H1 ρ1 σ1) (t : St C (Mine H1 ρ1 σ1) F1 H1 F H ρ σ) : St C P F0 H0 F H ρ σ :=
  ⟨t.rel, s.base.trans t.base s.mineQ, fun i b hb => by
    rcases t.mine i b hb with z | z
    · cases e : H0 b with
      | none => exact .inl rfl
      | some o =>
        refine .inr (Classical.byContradiction fun n => ?_)
        rw [s.base.same b o e n] at z; cases z
    · exact s.mineQ b z⟩
theorem Base.later (s : St C P F0 H0 F1 H1 ρ1 σ1) (t : Base (Mine H1 ρ1 σ1) F1 H1 F H) : Later F1 H1 F H := by
  refine ⟨fun b u nl r => ?_, fun b o fb lo e => ?_, t.fz⟩
  · have nm : ¬ Mine H1 ρ1 σ1 b := fun ⟨i, m⟩ => by
      obtain ⟨_, o, ho, lo⟩ := s.rel.live i b m
      rw [ho] at r; cases r; exact nl lo
    exact t.same b _ r nm
  · exact t.same b o e fun ⟨i, m⟩ => (s.rel.live i b m).1 fb
/-- the outer wish, from the loop's start on -/
theorem Out.rebase {Dv : Dv} {N : Ends} (s : St C P F0 H0 F1 H1 ρ1 σ1) (o : Out C W P F0 H0 Dv N) : Out C W (Mine H1 ρ1 σ1) F1 H1 Dv N :=
  ⟨fun ρ σ F H t q => o.nx ρ σ F H (s.unbase t) q, fun ρ σ F H t q => o.bk ρ σ F H (s.unbase t) q, fun ρ σ F H t q => o.ct ρ σ F H (s.unbase t) q,
    fun v d F H b dm hd q => o.r0 v d F H (s.base.trans b s.mineQ) dm hd q,
    fun k a d F H b dm ho nd lv q => o.rk k a d F H (s.base.trans b s.mineQ) dm ho nd (fun c hc => by
      obtain ⟨h1, h2, h3⟩ := lv c hc
      refine ⟨?_, h2, h3⟩
      rcases h1 with z | z
      · cases e : H0 c with
        | none => exact .inl rfl
        | some ob =>
          refine .inr (Classical.byContradiction fun n => ?_)
          rw [s.base.same c ob e n] at z; cases z
      · exact s.mineQ c z) q,
    fun cls dx ρ σ F H x t r q => o.ex cls dx ρ σ F H x (s.unbase t) r q⟩
end
section
variable {X : Cx} {C : Ctx} {W : WX} {tg iter : Expr} {body : List Stmt} {wi : WI} {g : WG} {wb : WS} {pos : Pos}
theorem vs_for (hs : SrcStays C) {is : List Nat} (l : List Nat) (hp : PassesOwn (model X.prog X.w) X.A X.env X.xe) (hc : X.calm = true) (hi : PI X tg iter (cI C W wi)) (hg : PG X tg (cG C is g)) (hb : PSs X body (cS C W wb))
    (h1 : ∀ x, foldedSetIterable iter X.env x = pure x) : PS X (.For tg iter body [] pos) (cS C W fun ρ D => wi (frz ρ l) (fun ds => wFor g wb D ds (frz ρ l)) (D.ex (frz ρ l))) :=
  (ps_for hp hc hi hg hb h1).imp fun N σ H ⟨P, F0, H0, F, ρ, Dv, s, q, o⟩ => by
    obtain ⟨F', s'⟩ := s.frz hs l
    refine ⟨F', _, _, _, s'.rel, q, fun J ds F1 H1 x wk q2 => ?_, o.exo hs s'⟩
    have s1 := s'.ext hs x
    refine ⟨fun i m σ H => m = ds.length - i ∧ i ≤ ds.length ∧ ∃ F2 ρ2, St C (Mine H1 (frz ρ l) _) F1 H1 F2 H ρ2 σ ∧ wFor g wb Dv (ds.drop i) ρ2, ⟨ds.length, by simp, Nat.zero_le _, F1, _, s1.rebase, by rw [List.drop_zero]; exact q2⟩, ?_⟩
    rintro i m σ2 H2 ⟨rfl, hi, F2, ρ2, t2, w2⟩
    have l2 := Base.later s1 t2.base
    by_cases hlt : i < ds.length
    · have hd : ds[i]? = some ds[i] := List.getElem?_eq_getElem hlt
      rw [List.drop_eq_getElem_cons hlt] at w2
      refine .inr ⟨wk.go i F2 H2 hlt l2, fun σ3 H3 => ∃ F3 ρ3, St C (Mine H1 (frz ρ l) _) F1 H1 F3 H3 ρ3 σ3 ∧ wFor g wb Dv (ds.drop (i + 1)) ρ3, fun σ3 H3 ⟨F3, ρ3, t3, w3⟩ => ⟨ds.length - (i + 1), by omega, rfl, hlt, F3, ρ3, t3, w3⟩, fun y H3 hy => ?_⟩
      obtain ⟨F3, x3, hd3⟩ := wk.yld i F2 H2 y H3 _ hd l2 hy
      refine ⟨_, _, _, F3, ρ2, _, _, t2.ext hs x3, hd3, w2, fun ρ4 σ4 F4 H4 t4 _ _ w4 => ?_⟩
      have o1 := Out.rebase s1 o
      exact ⟨_, _, _, F4, ρ4, _, t4, w4, ⟨fun ρ5 σ5 F5 H5 t5 w5 => ⟨F5, ρ5, t5, w5⟩, fun ρ5 σ5 F5 H5 t5 w5 => o1.nx ρ5 σ5 F5 H5 t5 w5, fun ρ5 σ5 F5 H5 t5 w5 => ⟨F5, ρ5, t5, w5⟩, o1.r0, o1.rk, o1.ex⟩⟩
    · have e : i = ds.length := by omega
      subst e
      rw [List.drop_length] at w2
      exact .inl ⟨wk.stop F2 H2 l2, o.nx ρ2 σ2 F2 H2 (s1.unbase t2) w2⟩
/-! ### while -/
def wWhile (l : List Nat) (wt : WT) (wb : WS) (D : Dv) : Nat → Rho → Prop
  | 0, _ => False
  | n + 1, ρ => wt (frz ρ l) (fun k => if k = true then wb ρ { D with nx := wWhile l wt wb D n, ct := wWhile l wt wb D n, bk := D.nx } else D.nx ρ) (D.ex (frz ρ l))
theorem vs_while (hs : SrcStays C) {c : Expr} {wt : WT} (l : List Nat) (hp : PassesOwn (model X.prog X.w) X.A X.env X.xe) (hc : PT X c (cT C W wt)) (hb : PSs X body (cS C W wb)) :
    PS X (.While c body [] pos) (cS C W fun ρ D => ∃ n, wWhile l wt wb D n ρ) :=
  (ps_while hp hc hb).imp fun N σ H ⟨P, F0, H0, F, ρ, Dv, s, ⟨n, q⟩, o⟩ => by
    refine ⟨fun m σ H => ∃ F ρ, St C P F0 H0 F H ρ σ ∧ wWhile l wt wb Dv m ρ, ⟨n, F, ρ, s, q⟩, ?_⟩
    rintro m σ2 H2 ⟨F2, ρ2, t2, w2⟩
    cases m with
    | zero => exact w2.elim
    | succ m =>
      obtain ⟨F3, t3⟩ := t2.frz hs l
      refine ⟨F3, _, _, _, t3.rel, w2, fun b F4 H4 x4 w4 => ?_, o.exo hs t3⟩
      have t4 := t2.back hs x4
      cases b with
      | true =>
        rw [if_pos rfl] at w4
        exact ⟨fun σ5 H5 => ∃ F ρ, St C P F0 H0 F H5 ρ σ5 ∧ wWhile l wt wb Dv m ρ, fun σ5 H5 h => ⟨m, Nat.lt_succ_self m, h⟩, P, F0, H0, F2, _, _, t4, w4, ⟨fun ρ5 σ5 F5 H5 t5 w5 => ⟨F5, ρ5, t5, w5⟩, fun ρ5 σ5 F5 H5 t5 w5 => o.nx ρ5 σ5 F5 H5 t5 w5, fun ρ5 σ5 F5 H5 t5 w5 => ⟨F5, ρ5, t5, w5⟩, o.r0, o.rk, o.ex⟩⟩
      | false =>
        rw [if_neg Bool.false_ne_true] at w4
        exact o.nx _ σ2 F2 H4 t4 w4
end
end L3

/-! L3i: list comprehensions. -/
namespace L3
open PySem PySem.Spec PyProof.Rows L2

def wipeT (ρ : Rho) : List Nat → Rho
  | [] => ρ
  | v :: vs => (wipeT ρ vs).set v .un
abbrev WF : WX := fun _ _ _ _ => False
abbrev NoEx : Ex → Prop := fun _ => False
/-- the turns of a comprehension: acc is made so far -/
def wLc (g : WG) (wt : WT) (we : WE) (ρ0 : Rho) (Q : List T → Prop) : List T → List T → Prop
  | [], acc => Q acc
  | d :: ds, acc => g d ρ0 fun ρ1 => wt ρ1 (fun b => if b = true then we ρ1 (fun y => acc.length < sizeLine ∧ wLc g wt we ρ0 Q ds (acc ++ [y])) NoEx else wLc g wt we ρ0 Q ds acc) NoEx
section
variable {C : Ctx} {W : WX} {F : Addr → Prop} {H : Hp}
theorem RelS.wipe {ρ : Rho} {σ : L2.St} (r : RelS C F H ρ σ) : ∀ vs : List Nat, RelS C F H (wipeT ρ vs) (L2.wipe σ vs)
  | [] => r
  | v :: vs => (r.wipe vs).forget v none
theorem ownI_wipe {ρ : Rho} {σ : L2.St} : ∀ (vs : List Nat) (j : Nat) (b : Addr), b ∈ ownI H (wipeT ρ vs) (L2.wipe σ vs) j → b ∈ ownI H ρ σ j
  | [], _, _, h => h
  | v :: vs, j, b, h => by
    refine ownI_wipe vs j b ?_
    unfold wipeT L2.wipe at h
    unfold ownI at h ⊢
    by_cases hj : v = j
    · subst hj
      by_cases hl : v < (wipeT ρ vs).length
      · rw [getD_set_self hl] at h; cases h
      · rw [getD_set_out (x := Slot.un) (Nat.le_of_not_lt hl), List.getD_eq_getElem?_getD, List.getElem?_eq_none (Nat.le_of_not_lt hl)] at h
        cases h
    · rw [getD_set_ne hj, getD_set_ne hj] at h
      exact h
theorem wipe_in {σ : L2.St} {i : Nat} : ∀ {vs : List Nat}, i ∈ vs → i < σ.length → (L2.wipe σ vs)[i]? = some none
  | [], h, _ => nomatch h
  | v :: vs, h, hl => by
    unfold L2.wipe
    by_cases e : v = i
    · subst e
      rw [List.getElem?_set_self (by rw [wipe_length]; exact hl)]
    · rw [List.getElem?_set_ne e]
      exact wipe_in ((List.mem_cons.mp h).resolve_left fun z => e z.symm) hl
theorem wipe_wipe (σ : L2.St) (vs : List Nat) : L2.wipe (L2.wipe σ vs) vs = L2.wipe σ vs := by
  refine List.ext_getElem? fun i => ?_
  by_cases h : i ∈ vs
  · by_cases hl : i < σ.length
    · rw [wipe_in h (by rw [wipe_length]; exact hl), wipe_in h hl]
    · rw [List.getElem?_eq_none (by rw [wipe_length, wipe_length]; omega), List.getElem?_eq_none (by rw [wipe_length]; omega)]
  · rw [wipe_out h]
theorem ExOut.no {σ : L2.St} : ExOut C WF F H σ NoEx := fun _ _ _ _ _ _ _ q => q
theorem Ds.one_of {d : T} {v : V} (h : D C H F v d) : Ds C H F [v] [d] := .cons h .nil
/-- any base will do -/
theorem RelS.st {ρ : Rho} {σ : L2.St} (r : RelS C F H ρ σ) : St C (fun _ => True) F H F H ρ σ := ⟨r, .refl, fun _ _ _ => .inr trivial⟩
theorem lc_c (hs : SrcStays C) {vs : List Nat} {wi : WI} {g : WG} {wt : WT} {we : WE} {σ : L2.St} {Q : VK} {k : Nat}
    (h : ∃ F ρ Qv Ev, RelS C F H ρ σ ∧ wi ρ (fun ds => wLc g wt we (wipeT ρ vs) Qv ds []) Ev ∧
      (∀ p xs ds F' H', Ext F H F' H' → H' p = some (.lst xs) → H p = none → ¬ F' p → (∀ b, F' b → ∃ o, H' b = some o) → Ds C H' F' xs ds → Qv ds → Q (.ref p) H') ∧ ExOut C W F H σ Ev) :
    tLc (cI C W wi) (cG C vs g) (cT C WF wt) (cE C WF we) vs σ H Q := by
  obtain ⟨F0, ρ, Qv, Ev, rel, q, kk, ex⟩ := h
  refine ⟨F0, ρ, _, Ev, rel, q, fun J ds F1 H1 x1 wk q1 p hp => ?_, ex⟩
  have rel1 := rel.ext hs x1
  have np : ¬ F1 p := fun z => by
    obtain ⟨o, ho⟩ := rel1.dom p z
    rw [hp] at ho; cases ho
  have np0 : H p = none := by
    cases e : H p with
    | none => rfl
    | some o => rw [x1.same p o e] at hp; cases hp
  have own1 : ∀ j b, b ∈ ownI H1 ρ σ j → b ≠ p := fun j b hb z => by
    subst z
    obtain ⟨_, o, ho, _⟩ := rel1.live j b hb
    rw [hp] at ho; cases ho
  -- what stands at each turn
  refine ⟨fun i m H => m = ds.length - i ∧ i ≤ ds.length ∧ ∃ F acc as, RelS C F H ρ σ ∧ Ext F1 H1 F H ∧ H p = some (.lst acc) ∧ ¬ F p ∧ (∀ j b, b ∈ ownI H ρ σ j → b ≠ p) ∧ Ds C H F acc as ∧ wLc g wt we (wipeT ρ vs) Qv (ds.drop i) as,
    ⟨ds.length, by simp, Nat.zero_le _, F1, [], [], rel1.ext hs (.new_tup hp), .new_tup hp, upd_same, np, fun j b hb => own1 j b (by rwa [ownI_exts rel1 (Ext.new_tup (F := F1) hp)] at hb), .nil, by rw [List.drop_zero]; exact q1⟩, ?_⟩
  rintro i m H2 ⟨rfl, hi, F2, acc, as, r2, x2, hp2, nf2, ow2, da, w2⟩
  by_cases hlt : i < ds.length
  · have hd : ds[i]? = some ds[i] := List.getElem?_eq_getElem hlt
    rw [List.drop_eq_getElem_cons hlt] at w2
    refine .inr ⟨wk.go i F2 H2 hlt x2.later, fun H3 => ∃ F acc as, RelS C F H3 ρ σ ∧ Ext F1 H1 F H3 ∧ H3 p = some (.lst acc) ∧ ¬ F p ∧ (∀ j b, b ∈ ownI H3 ρ σ j → b ≠ p) ∧ Ds C H3 F acc as ∧ wLc g wt we (wipeT ρ vs) Qv (ds.drop (i + 1)) as,
      fun H3 ⟨F3, acc3, as3, h3⟩ => ⟨ds.length - (i + 1), by omega, rfl, hlt, F3, acc3, as3, h3⟩, fun y H3 hy => ?_⟩
    obtain ⟨F3, x3, hd3⟩ := wk.yld i F2 H2 y H3 _ hd x2.later hy
    have r3 := r2.ext hs x3
    -- nothing of a turn takes p
    have step : ∀ {F4 : Addr → Prop} {H4 : Hp}, Ext F2 H2 F4 H4 → RelS C F4 H4 ρ σ ∧ Ext F1 H1 F4 H4 ∧ H4 p = some (.lst acc) ∧ ¬ F4 p ∧ (∀ j b, b ∈ ownI H4 ρ σ j → b ≠ p) ∧ Ds C H4 F4 acc as := fun x4 =>
      ⟨r2.ext hs x4, x2.trans x4, x4.same p _ hp2, fun z => (x4.new p z).elim nf2 fun ⟨e, _⟩ => by (rw [hp2] at e; cases e), fun j b hb => ow2 j b (by rwa [ownI_exts r2 x4] at hb), da.later hs x4.later⟩
    refine ⟨_, _, _, F3, _, _, _, (r3.wipe vs).st, hd3, w2, fun ρ4 σ4 F4 H4 s4 x4 e4 w4 => ⟨e4.trans (wipe_wipe σ vs), ?_⟩⟩
    refine ⟨F4, ρ4, _, NoEx, s4.rel, w4, fun b F5 H5 x5 w5 => ?_, .no⟩
    cases b with
    | false =>
      obtain ⟨h1, h2, h3, h4, h5, h6⟩ := step ((x3.trans x4).trans x5)
      exact ⟨F5, acc, as, h1, h2, h3, h4, h5, h6, w5⟩
    | true =>
      refine ⟨F5, ρ4, _, NoEx, s4.rel.ext hs x5, w5, fun v d F6 H6 x6 hd6 ⟨hz, w6⟩ => ?_, .no⟩
      obtain ⟨h1, h2, h3, h4, h5, h6⟩ := step (((x3.trans x4).trans x5).trans x6)
      refine ⟨acc, h3, by rw [h6.length]; exact hz, F6, acc ++ [v], as ++ [d], ?_, ?_, upd_same, h4, ?_, ?_, w6⟩
      · refine h1.keep hs (Later.write h4 h3 trivial) (fun j b hb => ⟨upd_ne (h5 j b hb), (h1.live j b hb).1⟩) fun b z => ?_
        obtain ⟨o, ho⟩ := h1.dom b z
        by_cases e : b = p
        · exact ⟨_, by rw [e, upd_same]⟩
        · exact ⟨o, by rw [upd_ne e]; exact ho⟩
      · refine ⟨fun b o e => ?_, h2.fz, fun b z => (h2.new b z).imp id fun ⟨e1, o, e2⟩ => ⟨e1, ?_⟩⟩
        · rw [upd_ne (ne_of_none e hp)]; exact h2.same b o e
        · by_cases e : b = p
          · exact ⟨_, by rw [e, upd_same]⟩
          · exact ⟨o, by rw [upd_ne e]; exact e2⟩
      · intro j b hb
        rw [ownI_keep (H := H6) fun c hc => upd_ne (h5 j c hc)] at hb
        exact h5 j b hb
      · exact (h6.append (.one_of hd6)).later hs (Later.write h4 h3 trivial)
  · have e : i = ds.length := by omega
    subst e
    rw [List.drop_length] at w2
    exact .inl ⟨wk.stop F2 H2 x2.later, kk p acc as F2 H2 (x1.trans x2) hp2 np0 nf2 r2.dom da w2⟩
end
section
variable {X : Cx} {C : Ctx} {W : WX} {elt tg iter : Expr} {ifs : List Expr} {scope : Scope} {own : List (Str × Nat)} {pos : Pos} {wi : WI} {g : WG} {wt : WT} {we : WE}
abbrev wLcE (wi : WI) (g : WG) (wt : WT) (we : WE) (vs : List Nat) : WE := fun ρ Q E => wi ρ (fun ds => wLc g wt we (wipeT ρ vs) (fun r => Q (.lst r)) ds []) E
theorem lc_sh (hs : SrcStays C) {vs : List Nat} {σ : L2.St} {H : Hp} {Q : VK} (h : cE C W (wLcE wi g wt we vs) σ H Q) : tLc (cI C W wi) (cG C vs g) (cT C WF wt) (cE C WF we) vs σ H Q := by
  obtain ⟨F, ρ, Qv, Ev, rel, q, k, ex⟩ := h
  refine lc_c (k := 0) hs ⟨F, ρ, _, Ev, rel, q, fun p xs ds F' H' x hp np nf dm hd q2 => ?_, ex⟩
  have x2 : Ext F H (fun b => F' b ∨ b = p) H' := ⟨x.same, fun b z => .inl (x.fz b z), fun b z => by
    rcases z with z | z
    · exact x.new b z
    · subst z; exact .inr ⟨np, _, hp⟩⟩
  exact k (.ref p) (.lst ds) (fun b => F' b ∨ b = p) H' x2 (.lst hp (.inr rfl) (hd.later hs ⟨fun _ _ _ z => z, fun _ _ _ _ z => z, fun _ z => .inl z⟩)) q2
theorem lc_own (hs : SrcStays C) {vs : List Nat} {σ : L2.St} {H : Hp} {Q : VK} (h : cF C W 1 (wLcE wi g wt we vs) σ H Q) : tLc (cI C W wi) (cG C vs g) (cT C WF wt) (cE C WF we) vs σ H Q := by
  obtain ⟨F, ρ, Qv, Ev, rel, q, k, ex⟩ := h
  refine lc_c (k := 0) hs ⟨F, ρ, _, Ev, rel, q, fun p xs ds F' H' x hp np nf dm hd q2 => ?_, ex⟩
  refine k p (.lst ds) F' H' x ⟨nf, .inl ⟨xs, ds, rfl, hp, hd⟩⟩ (by show [p].Nodup; simp) (fun b hb => ?_) q2
  have e : b = p := by
    have : b ∈ [p] := hb
    simpa using this
  subst e
  exact ⟨nf, np, _, hp, trivial⟩
section
variable (hc : X.calm = true) (hN : X.N.Nodup) (hi : PI X tg iter (cI C W wi)) (ok : BlkOk X.N X.env.scope scope own)
    (hg : ∀ (s : Shared) (H : Hp) (C' : Addr) (cl : List (Str × Addr)) (fp : List Addr), PG (X.blk s H scope (compEnvC scope cl C' X.env) fp) tg (cG C (own.map (·.2)) g)) (ht : ∀ (s : Shared) (H : Hp) (C' : Addr) (cl : List (Str × Addr)) (fp : List Addr), PTs (X.blk s H scope (compEnvC scope cl C' X.env) fp) ifs (cT C WF wt))
    (he : ∀ (s : Shared) (H : Hp) (C' : Addr) (cl : List (Str × Addr)) (fp : List Addr), PE (X.blk s H scope (compEnvC scope cl C' X.env) fp) elt (cE C WF we)) (hf : ∀ x, foldedSetIterable iter X.env x = Pure.pure x)
include hc hN hi ok hg ht he hf
theorem ve_lc (hs : SrcStays C) : PE X (.ListComp elt [⟨tg, iter, ifs, 0⟩] scope pos) (cE C W (wLcE wi g wt we (own.map (·.2)))) :=
  (pe_lc hc hN hi ok hg ht he hf).imp fun _ _ _ h => lc_sh hs h
theorem vf_lc (hs : SrcStays C) : PE X (.ListComp elt [⟨tg, iter, ifs, 0⟩] scope pos) (cF C W 1 (wLcE wi g wt we (own.map (·.2)))) :=
  (pe_lc hc hN hi ok hg ht he hf).imp fun _ _ _ h => lc_own hs h
theorem vs_setLc (hs : SrcStays C) {i : Nat} {y : Str} {py spos : Pos} (l : List Nat) (hy : X.N[i]? = some y) (hyl : X.env.scope.names.lookup y = some .local)
    (hsw : swapsWith (.ListComp elt [⟨tg, iter, ifs, 0⟩] scope pos) (some (.Name y py)) spos.line X.env = Pure.pure true) :
    PS X (.Assign [.Name y py] (.ListComp elt [⟨tg, iter, ifs, 0⟩] scope pos) spos) (cS C W fun ρ D => wLcE wi g wt we (own.map (·.2)) (frz ρ l) (fun d => D.nx ((frz ρ l).set i (.sh d))) (D.ex (frz ρ l))) :=
  (ps_setLc hc hN hy hyl hsw hi ok hg ht he hf).imp fun D σ H h => by
    obtain ⟨F, ρ, Qv, Ev, q⟩ := set_c hs l h
    exact lc_sh hs ⟨F, ρ, Qv, Ev, q⟩
theorem vs_setLcF (hs : SrcStays C) {i : Nat} {y : Str} {py spos : Pos} (l : List Nat) (hy : X.N[i]? = some y) (hyl : X.env.scope.names.lookup y = some .local)
    (hsw : swapsWith (.ListComp elt [⟨tg, iter, ifs, 0⟩] scope pos) (some (.Name y py)) spos.line X.env = Pure.pure true) :
    PS X (.Assign [.Name y py] (.ListComp elt [⟨tg, iter, ifs, 0⟩] scope pos) spos) (cS C W fun ρ D => wLcE wi g wt we (own.map (·.2)) (frz ρ l) (fun d => D.nx ((frz ρ l).set i (.own 1 d))) (D.ex (frz ρ l))) :=
  (ps_setLc hc hN hy hyl hsw hi ok hg ht he hf).imp fun D σ H h => by
    obtain ⟨F, ρ, Qv, Ev, q⟩ := setF_c hs l h
    exact lc_own hs ⟨F, ρ, Qv, Ev, q⟩
end
end
end L3

/-! L3j: defs: what they promise, their calls, their bodies. -/
namespace L3
open PySem PySem.Spec PyProof.Rows L2

/-! ### defs where no text of a thing is under way: what repr asks -/
structure FnG (P : Program) (w : World) (K : PySem.W.Frag) (mg : Str → Option Value) (base : Heap) (k : Nat) (f : Addr) (fd : FuncData) (ps : List Str) (sp : Sp) : Prop where
  len : ∀ vs H Q E, sp vs H Q E → vs.length = ps.length
  run : ∀ (A : Around) (outer : List Env) (s : Shared) (H : Hp) (args : Args) (us : List Value) (vs : List V) (Q : VK) (E : XK), Room k A → A.guards = some [] → Env0 P w K mg base A outer s H → BindsTo s fd args (ps.zip us) → Vals vs us → sp vs H Q E →
    codeAny (model P w) A (.call (.ref f) args) (CR (L2.CX P w) outer P w H s Q E) s
theorem FnG.mono {P : Program} {w : World} {K : PySem.W.Frag} {mg : Str → Option Value} {base : Heap} {j k : Nat} {f : Addr} {fd : FuncData} {ps : List Str} {sp : Sp} (F : FnG P w K mg base j f fd ps sp) (h : j ≤ k) : FnG P w K mg base k f fd ps sp :=
  ⟨F.len, fun A outer s H args us vs Q E hr => F.run A outer s H args us vs Q E (hr.mono h)⟩
theorem FnG.imp {P : Program} {w : World} {K : PySem.W.Frag} {mg : Str → Option Value} {base : Heap} {k : Nat} {f : Addr} {fd : FuncData} {ps : List Str} {sp sp' : Sp} (F : FnG P w K mg base k f fd ps sp) (h : ∀ vs H Q E, sp' vs H Q E → sp vs H Q E) : FnG P w K mg base k f fd ps sp' :=
  ⟨fun vs H Q E q => F.len vs H Q E (h _ _ _ _ q), fun A outer s H args us vs Q E hr hg he hb hv hs => F.run A outer s H args us vs Q E hr hg he hb hv (h _ _ _ _ hs)⟩
theorem fnG_of_ok {P : Program} {w : World} {K : PySem.W.Frag} {mg : Str → Option Value} {base : Heap} {k : Nat} {f : Addr} {fd : FuncData} {ps : List Str} {sp : Sp} (F : FnOk P w K mg base (L2.CX P w) k f fd ps sp) : FnG P w K mg base k f fd ps sp :=
  ⟨F.len, fun A outer s H args us vs Q E hr _ he hb hv hs => F.run A outer s H args us vs Q E hr he hb hv hs⟩
theorem okG {P : Program} {w : World} {K : PySem.W.Frag} {mg : Str → Option Value} {base : Heap} {x qual : Str} {st : Stmt} {f : Addr} {fd : FuncData} {N ps : List Str} {k : Nat} {sp : Sp} (F : Fun K x qual st f fd) (S : FnScope N ps (defScope st)) (len : ∀ vs H Q E, sp vs H Q E → vs.length = ps.length)
    (hbody : ∀ (cdv : Value) (A : Around) (outer : List Env) (s : Shared) (H : Hp) (vs : List V) (Q : VK) (E : XK), Room k (A.deeper (envOfC qual (defScope st) s.heap.objs.size f cdv)) → (A.deeper (envOfC qual (defScope st) s.heap.objs.size f cdv)).guards = some [] → sp vs H Q E →
      ∃ t, PSs (cxOf (L2.CX P w) P w K mg base N qual (defScope st) f cdv A outer s H E) (defBody st) t ∧ t { nx := fun _ H' => Q .non H', rt := Q } (start N vs) H) : FnG P w K mg base (k + 1) f fd ps sp := by
  obtain ⟨oc, od, kV, doc, pm, an, cdv, ct, osl, rfl, lk, hcd⟩ := F.ex
  refine ⟨len, fun A outer s H args us vs Q E hr hgd e0 hb r hsp => ?_⟩
  have hl := len _ _ _ _ hsp
  have KX : K.In s.heap := e0.mod.kin.keeps fun b o e => (e0.bs b o e).1
  have lim : s.heap.NoLimit := e0.mod.nolimit.keeps fun b o e => (e0.bs b o e).1
  have hkind : ∀ y ∈ ps.zip us, (defScope st).names.lookup y.1 = some .local ∨ ((defScope st).names.lookup y.1 = some .cell ∧ ((cellsFrom (s.heap.objs.size + 1) (defScope st).names []).lookup y.1).isSome = true) := fun ⟨n, v⟩ hy => by
    rcases S.par n (List.of_mem_zip hy).1 with q | q
    · exact .inl q
    · exact .inr ⟨q, PySem.W.cellsFrom_some _ _ _ (.inl q)⟩
  refine codeAny_call_function hr.depth (KX _ _ lk) rfl S.co S.gen rfl (PySem.W.codeRec_of KX hcd) (hb _ _ _ _ ?_)
  refine wpAny_newFunctionEnv_cells S.kind hkind fun env he s1 x => ?_
  subst he
  refine ⟨lim.keeps x.toInCall.keep, codeAny_func ?_⟩
  obtain ⟨t, ht, hq⟩ := hbody cdv A outer s H vs Q E (hr.deeper _) hgd hsp
  have I : Inv (cxOf (L2.CX P w) P w K mg base N qual (defScope st) f cdv A outer s H E) [] (start N vs) H s1 := inv_start S hr.hd e0 hl r x
  refine wpAny_mono (ht.run [] s1 (start N vs) H _ I hq) (fun fl s' hs => ?_) fun e s' hs => hs
  cases fl with
  | ret u =>
    obtain ⟨v, σ', H', J, rv, q⟩ := hs
    exact ⟨v, H', J.os, J.bare, J.base, J.hok, rv, q⟩
  | next =>
    obtain ⟨σ', H', J, q⟩ := hs
    exact ⟨V.non, H', J.os, J.bare, J.base, J.hok, rfl, q⟩
  | brk =>
    obtain ⟨_, _, _, q⟩ := hs
    exact False.elim q
  | cont =>
    obtain ⟨_, _, _, q⟩ := hs
    exact False.elim q
theorem run_fnG {X : Cx} {k : Nat} {f : Addr} {fd : FuncData} {ps : List Str} {sp : Sp} {E : L2.St → XK} {pins : List (Addr × Obj)} {σ : L2.St} {H : Hp} {s : Shared} {Q : VK} {us : List Value} {vs : List V} (F : FnG X.prog X.w X.K X.mg X.base k f fd ps sp) (hr : Room k X.A) (hgd : X.A.guards = some [])
    (hb : Binds X.K fd ps []) (hx : PassesAt (L2.CX X.prog X.w) X σ (E σ)) (I : Inv X pins σ H s) (r : Vals vs us) (h : sp vs H Q (E σ)) : wpAny (model X.prog X.w) X.A (call (.ref f) us) (EP X pins σ Q) X.xe s := by
  have hl : us.length = ps.length := by rw [← r.length]; exact F.len _ _ _ _ h
  have b := hb s us I.kIn (by rw [List.append_nil]; exact hl)
  rw [List.append_nil] at b
  refine wpAny_call (codeAny_mono (F.run X.A X.stack s H ⟨us, []⟩ us vs Q (E σ) hr hgd I.env0 b r h) fun r s' hq => ?_)
  cases r with
  | error e => exact hx pins H s e s' I hq
  | ok fl =>
    cases fl with
    | ret u => exact I.after hq
    | next => exact False.elim hq
    | brk => exact False.elim hq
    | cont => exact False.elim hq
theorem pe_callG {X : Cx} {k : Nat} {f : Addr} {fd : FuncData} {ps : List Str} {sp : Sp} {E : L2.St → XK} {x : Str} {p pos : Pos} {es : List Expr} {t : TA} (F : FnG X.prog X.w X.K X.mg X.base k f fd ps sp) (hr : Room k X.A) (hgd : X.A.guards = some []) (hg : Gl X x) (hm : X.mg x = some (.ref f)) (hk : PySem.W.keepIn X.K (.ref f) = true)
    (hb : Binds X.K fd ps []) (hx : ∀ σ, PassesAt (L2.CX X.prog X.w) X σ (E σ)) {e : Expr} (ha : PA X (e :: es) t) (hdb : (x == ("__debug__" : Str)) = false) (he : starEach (e :: es) X.env = (false, eval e X.env) :: starEach es X.env) (hpl : (backTo pos (starEach es X.env)).any (·.1) = false) :
    PE X (.Call (.Name x p) (e :: es) [] pos) (tCallS sp E t) := by
  refine ⟨fun pins s σ H Q I h => ?_⟩
  refine wpAny_Call_Name_kw (ld_glob I hg hm ?_ hdb)
  refine PySem.W.callWith_K (h₀ := X.base) I.ok.mod.kin hk (thn (ha.run pos pins s σ H _ I h) fun us s1 ⟨vs, H1, I1, r, q⟩ => ⟨I1.kIn, ?_⟩) he hpl
  exact run_fnG F hr hgd hb (hx σ) I1 r q

/-- a def's word: the arguments, what is wanted of the value, of an exception -/
abbrev VSp := List T → (T → Prop) → (Ex → Prop) → Prop
/-- as a promise: n arguments; fr = 0: the value is a shared tree; fr above 0: a new thing, owned so deep -/
def spV (C : Ctx) (n fr : Nat) (sp : VSp) : Sp := fun vs H Q E => ∃ F ds Qv Ev, vs.length = n ∧ (∀ b, F b → ∃ o, H b = some o) ∧ Ds C H F vs ds ∧ sp ds Qv Ev ∧
  (fr = 0 → ∀ v d F' H', Ext F H F' H' → D C H' F' v d → Qv d → Q v H') ∧
  (∀ k, fr = k + 1 → ∀ a d F' H', Ext F H F' H' → OwnAt C H' F' (k + 1) a d → (owned H' (k + 1) a).Nodup → (∀ b ∈ owned H' (k + 1) a, ¬ F' b ∧ H b = none ∧ ∃ o, H' b = some o ∧ LD o) → Qv d → Q (.ref a) H') ∧
  (∀ cls dx F' H' x, Ext F H F' H' → ExR C F' H' cls dx x → Ev x → E cls dx H')
section
variable {C : Ctx} {W : WX} {F : Addr → Prop} {H : Hp} {ρ : Rho} {σ : L2.St}
/-- a new thing, taken as a shared tree -/
theorem share (hs : SrcStays C) {k : Nat} {a : Addr} {d : T} {F' : Addr → Prop} {H' : Hp} (x : Ext F H F' H') (h : OwnAt C H' F' (k + 1) a d) (lv : ∀ b ∈ owned H' (k + 1) a, ¬ F' b ∧ H b = none ∧ ∃ o, H' b = some o ∧ LD o) :
    ∃ F'', Ext F H F'' H' ∧ D C H' F'' (.ref a) d := by
  refine ⟨fun b => F' b ∨ b ∈ owned H' (k + 1) a, ⟨x.same, fun b z => .inl (x.fz b z), fun b z => ?_⟩, h.frozen hs (fun _ z => .inl z) fun _ z => .inr z⟩
  rcases z with z | z
  · exact x.new b z
  · obtain ⟨_, h2, o, h3, _⟩ := lv b z
    exact .inr ⟨h2, o, h3⟩
theorem ve_of_vf (hs : SrcStays C) {X : Cx} {e : Expr} {k : Nat} {w : WE} (h : PE X e (cF C W (k + 1) w)) : PE X e (cE C W w) :=
  h.imp fun σ H Q ⟨F, ρ, Qv, Ev, rel, q, kk, ex⟩ => ⟨F, ρ, Qv, Ev, rel, q, fun a d F' H' x ho nd lv q2 => by
    obtain ⟨F2, x2, hd⟩ := share hs x ho lv
    exact kk _ _ F2 H' x2 hd q2, ex⟩
variable {X : Cx} {kk n : Nat} {f : Addr} {fd : FuncData} {ps : List Str} {sp : VSp} {x : Str} {p pos : Pos} {e : Expr} {es : List Expr} {ws : WA}
theorem ve_call (hs : SrcStays C) (Fn : FnG X.prog X.w X.K X.mg X.base kk f fd ps (spV C n 0 sp)) (hr : Room kk X.A) (hgd : X.A.guards = some []) (hg : Gl X x) (hm : X.mg x = some (.ref f)) (hk : PySem.W.keepIn X.K (.ref f) = true) (hb : Binds X.K fd ps []) (tk : Takes X W)
    (ha : PA X (e :: es) (cA C W ws)) (hdb : (x == ("__debug__" : Str)) = false) (h1 : starEach (e :: es) X.env = (false, eval e X.env) :: starEach es X.env) (hpl : (backTo pos (starEach es X.env)).any (·.1) = false) :
    PE X (.Call (.Name x p) (e :: es) [] pos) (cE C W fun ρ Q E => ws ρ (fun ds => ds.length = n ∧ sp ds Q E) E) :=
  (pe_callG Fn hr hgd hg hm hk hb (fun σ => passAt tk σ) ha hdb h1 hpl).imp fun σ H Q ⟨F, ρ, Qv, Ev, rel, q, k, ex⟩ => ⟨F, ρ, _, Ev, rel, q, fun vs ds F1 H1 x1 hds q1 =>
    ⟨F1, ds, Qv, Ev, by rw [hds.length]; exact q1.1, (rel.ext hs x1).dom, hds, q1.2, fun _ v d F2 H2 x2 hd q2 => k v d F2 H2 (x1.trans x2) hd q2, fun _ z => (nomatch z), fun cls dx F2 H2 y x2 r q2 => ex cls dx F2 H2 y (x1.trans x2) r q2⟩, ex⟩
theorem vf_call (hs : SrcStays C) {m : Nat} (Fn : FnG X.prog X.w X.K X.mg X.base kk f fd ps (spV C n (m + 1) sp)) (hr : Room kk X.A) (hgd : X.A.guards = some []) (hg : Gl X x) (hm : X.mg x = some (.ref f)) (hk : PySem.W.keepIn X.K (.ref f) = true) (hb : Binds X.K fd ps []) (tk : Takes X W)
    (ha : PA X (e :: es) (cA C W ws)) (hdb : (x == ("__debug__" : Str)) = false) (h1 : starEach (e :: es) X.env = (false, eval e X.env) :: starEach es X.env) (hpl : (backTo pos (starEach es X.env)).any (·.1) = false) :
    PE X (.Call (.Name x p) (e :: es) [] pos) (cF C W (m + 1) fun ρ Q E => ws ρ (fun ds => ds.length = n ∧ sp ds Q E) E) :=
  (pe_callG Fn hr hgd hg hm hk hb (fun σ => passAt tk σ) ha hdb h1 hpl).imp fun σ H Q ⟨F, ρ, Qv, Ev, rel, q, k, ex⟩ => ⟨F, ρ, _, Ev, rel, q, fun vs ds F1 H1 x1 hds q1 =>
    ⟨F1, ds, Qv, Ev, by rw [hds.length]; exact q1.1, (rel.ext hs x1).dom, hds, q1.2, (fun z => nomatch z), fun k' z => by
      cases z
      intro a d F2 H2 x2 ho nd lv q2
      refine k a d F2 H2 (x1.trans x2) ho nd (fun b hb => ?_) q2
      obtain ⟨h1, h2, h3⟩ := lv b hb
      refine ⟨h1, ?_, h3⟩
      cases e : H b with
      | none => rfl
      | some o => rw [x1.same b o e] at h2; exact (nomatch h2), fun cls dx F2 H2 y x2 r q2 => ex cls dx F2 H2 y (x1.trans x2) r q2⟩, ex⟩
end

/-! ### a def's body -/
def startT (N : List Str) (ds : List T) : Rho := ds.map Slot.sh ++ List.replicate (N.length - ds.length) .un
theorem relS_start {C : Ctx} {F : Addr → Prop} {H : Hp} {N : List Str} {vs : List V} {ds : List T} (h : Ds C H F vs ds) (dm : ∀ b, F b → ∃ o, H b = some o) : RelS C F H (startT N ds) (L2.start N vs) := by
  have hl := h.length
  have no : ∀ i b, ¬ b ∈ ownI H (startT N ds) (L2.start N vs) i := fun i b hb => by
    unfold ownI startT at hb
    rw [List.getD_eq_getElem?_getD] at hb
    by_cases hi : i < ds.length
    · rw [List.getElem?_append_left (by simpa using hi), List.getElem?_map, List.getElem?_eq_getElem hi] at hb
      cases hb
    · rw [List.getElem?_append_right (by simpa using Nat.le_of_not_lt hi), List.getElem?_replicate] at hb
      split at hb <;> cases hb
  refine ⟨by simp [startT, L2.start, hl], fun i s hi => ?_, fun i j b h1 _ => (no i b h1).elim, fun i => ?_, fun i b hb => (no i b hb).elim, dm⟩
  · unfold startT at hi
    by_cases hlt : i < ds.length
    · rw [List.getElem?_append_left (by simpa using hlt), List.getElem?_map, List.getElem?_eq_getElem hlt] at hi
      cases hi
      obtain ⟨v, hv, dv⟩ := h.get (List.getElem?_eq_getElem hlt)
      refine ⟨v, ?_, dv⟩
      unfold L2.start
      rw [List.getD_eq_getElem?_getD, List.getElem?_append_left (by rw [List.length_map, hl]; exact hlt), List.getElem?_map, hv]
      rfl
    · rw [List.getElem?_append_right (by simpa using Nat.le_of_not_lt hlt), List.getElem?_replicate] at hi
      split at hi
      · cases hi; trivial
      · cases hi
  · cases q : ownI H (startT N ds) (L2.start N vs) i with
    | nil => exact List.nodup_nil
    | cons b l => exact (no i b (by rw [q]; exact List.mem_cons_self)).elim
/-- THE RULE: a def keeps its word -/
theorem fn_ok {P : Program} {w : World} {mg : Str → Option Value} {base : Heap} {C : Ctx} (hs : SrcStays C) {x qual : Str} {st : Stmt} {f : Addr} {fd : FuncData} {N ps : List Str} {k n fr : Nat} {sp : VSp} {wb : WS}
    (F : Fun C.K x qual st f fd) (S : FnScope N ps (defScope st)) (hn : ps.length = n)
    (hb : ∀ (cdv : Value) (A : Around) (outer : List Env) (s : Shared) (H : Hp) (E : XK), Room k (A.deeper (envOfC qual (defScope st) s.heap.objs.size f cdv)) → (A.deeper (envOfC qual (defScope st) s.heap.objs.size f cdv)).guards = some [] →
      PSs (cxOf (L2.CX P w) P w C.K mg base N qual (defScope st) f cdv A outer s H E) (defBody st) (cS C (fun cls d _ H => E cls d H) wb))
    (h : ∀ ds Q E, ds.length = n → sp ds Q E → wb (startT N ds) { nx := fun _ => fr = 0 ∧ Q .non, rt := fun m d => (fr = 0 ∨ m = fr) ∧ Q d, ex := fun _ x => E x }) : FnG P w C.K mg base (k + 1) f fd ps (spV C n fr sp) := by
  refine okG F S (fun vs H Q E ⟨_, _, _, _, h, _⟩ => h.trans hn.symm) fun cdv A outer s H vs Q E hr hgd h1 => ⟨_, hb cdv A outer s H E hr hgd, ?_⟩
  obtain ⟨F0, ds, Qv, Ev, hl, dm, hds, hsp, r0, rk, ex⟩ := h1
  have rel := relS_start (N := N) hds dm
  have ext : ∀ {F' : Addr → Prop} {H' : Hp}, Base (fun _ => False) F0 H F' H' → (∀ b, F' b → ∃ o, H' b = some o) → Ext F0 H F' H' := fun b d => b.toExt d
  refine ⟨fun _ => False, F0, H, F0, _, _, ⟨rel, .refl, fun i b hb => ?_⟩, h ds Qv Ev (hds.length.symm.trans hl) hsp, ?_⟩
  · exfalso
    unfold ownI startT at hb
    rw [List.getD_eq_getElem?_getD] at hb
    by_cases hi : i < ds.length
    · rw [List.getElem?_append_left (by simpa using hi), List.getElem?_map, List.getElem?_eq_getElem hi] at hb
      cases hb
    · rw [List.getElem?_append_right (by simpa using Nat.le_of_not_lt hi), List.getElem?_replicate] at hb
      split at hb <;> cases hb
  · refine ⟨fun ρ σ F1 H1 s1 q => r0 q.1 .non .non F1 H1 (ext s1.base s1.rel.dom) .non q.2, fun _ _ _ _ _ q => q.elim, fun _ _ _ _ _ q => q.elim, fun v d F1 H1 b dm1 hd q => ?_, fun m a d F1 H1 b dm1 ho nd lv q => ?_, fun cls dx ρ σ F1 H1 y s1 r q => ex cls dx F1 H1 y (ext s1.base s1.rel.dom) r q⟩
    · rcases q.1 with z | z
      · exact r0 z v d F1 H1 (ext b dm1) hd q.2
      · exact r0 z.symm v d F1 H1 (ext b dm1) hd q.2
    · have lv' : ∀ c ∈ owned H1 (m + 1) a, ¬ F1 c ∧ H c = none ∧ ∃ o, H1 c = some o ∧ LD o := fun c hc => by
        obtain ⟨z, h2, h3⟩ := lv c hc
        exact ⟨h2, z.resolve_right id, h3⟩
      rcases q.1 with z | z
      · obtain ⟨F2, x2, hd⟩ := share hs (ext b dm1) ho lv'
        exact r0 z _ _ F2 H1 x2 hd q.2
      · exact rk m z.symm a d F1 H1 (ext b dm1) ho nd lv' q.2
end L3

/-! L3k: a small syntax, its words, and when it is the text. -/
namespace L3
open PySem PySem.Spec PyProof.Rows L2

inductive Bo where
  | add | sub | mul | fdv | mod | pow
  deriving DecidableEq
inductive Co where
  | lt | le | gt | ge | eq | ne | in_ | notin | is_ | isnot
  deriving DecidableEq
inductive Ty where
  | str | int | bool | list | tuple | dict
  deriving DecidableEq
def Bo.op : Bo → Operator
  | .add => .Add | .sub => .Sub | .mul => .Mult | .fdv => .FloorDiv | .mod => .Mod | .pow => .Pow
def Bo.w : Bo → T → T → (T → Prop) → Prop
  | .add => wAdd | .sub => wSub | .mul => wMul | .fdv => wFdv | .mod => wMod | .pow => wPow
def Co.op : Co → CmpOp
  | .lt => .Lt | .le => .LtE | .gt => .Gt | .ge => .GtE | .eq => .Eq | .ne => .NotEq | .in_ => .In | .notin => .NotIn | .is_ => .Is | .isnot => .IsNot
def isNonT : T → Bool
  | .non => true
  | _ => false
def wIs (neg : Bool) (d d' : T) (Q : T → Prop) : Prop :=
  match d' with
  | .non => Q (.bl (isNonT d != neg))
  | _ => False
def wLt (f : Int → Int → Bool) (g : List Nat → List Nat → Bool) (d d' : T) (Q : T → Prop) : Prop :=
  match d, d' with
  | .int i, .int j => Q (.bl (f i j))
  | .str x, .str y => Q (.bl (g x.cps.toList y.cps.toList))
  | _, _ => False
def Co.w : Co → T → T → (T → Prop) → Prop
  | .lt => wLt (fun i j => decide (i < j)) (fun x y => decide (x < y))
  | .le => wCmp fun i j => decide (i ≤ j)
  | .gt => wCmp fun i j => decide (j < i)
  | .ge => wCmp fun i j => decide (j ≤ i)
  | .eq => wEq false | .ne => wEq true | .in_ => wIn false | .notin => wIn true | .is_ => wIs false | .isnot => wIs true
theorem bo_ok {X : Cx} {C : Ctx} (hs : SrcStays C) (hK : X.K = C.K) (o : Bo) : ∃ r, OpR X (binaryOp o.op) r ∧ OpD C r o.w := by
  cases o with
  | add => exact ⟨_, or_add, by rw [hK]; exact od_add hs⟩
  | sub => exact ⟨_, op_sub, od_sub⟩
  | mul => exact ⟨_, or_mul, od_mul hs⟩
  | fdv => exact ⟨_, op_fdivW, od_fdv⟩
  | mod => exact ⟨_, op_mod, od_mod⟩
  | pow => exact ⟨_, op_pow, od_pow⟩
theorem D.isNon {C : Ctx} {F : Addr → Prop} {H : Hp} {v : V} {d : T} (h : D C H F v d) : decide (v = .non) = isNonT d := by
  cases h <;> simp [isNonT]
theorem co_ok {X : Cx} {C : Ctx} (hs : SrcStays C) (hK : X.K = C.K) (hu : X.A.units + 65 < cLine) (o : Co) : ∃ r, OpR X (compareOp o.op) r ∧ OpD C r o.w := by
  have hu' : X.A.units + 64 < cLine := by omega
  cases o with
  | lt =>
    refine ⟨_, op_lt.or op_lt_str, fun F H x y d d' Qv Q hd hd' hw k => ?_⟩
    have hw : wLt (fun i j => decide (i < j)) (fun x y => decide (x < y)) d d' Qv := hw
    unfold wLt at hw
    split at hw
    · rw [hd.int_eq, hd'.int_eq]
      exact .inl ⟨_, _, rfl, rfl, k _ _ F H .refl (.bl _) hw⟩
    · rw [hd.str_eq, hd'.str_eq]
      exact .inr ⟨_, _, rfl, rfl, k _ _ F H .refl (.bl _) hw⟩
    · exact hw.elim
  | le => exact ⟨_, op_le, od_cmp⟩
  | gt => exact ⟨_, op_gt, od_cmp⟩
  | ge => exact ⟨_, op_ge, od_cmp⟩
  | eq => exact ⟨_, (op_eqD hu').or op_eq, by rw [hK]; exact od_eq⟩
  | ne => exact ⟨_, (op_neD hu').or op_ne, by rw [hK]; exact od_ne⟩
  | in_ => exact ⟨_, (op_inD hu).or (op_inT hu), by rw [hK]; exact od_in⟩
  | notin => exact ⟨_, (op_notInD hu).or (op_notInT hu), by rw [hK]; exact od_notIn⟩
  | is_ =>
    refine ⟨_, op_isN, fun F H x y d d' Qv Q hd hd' hw k => ?_⟩
    have hw : wIs false d d' Qv := hw
    unfold wIs at hw
    split at hw
    · exact ⟨hd'.non_eq, k _ _ F H .refl (.bl _) (by rw [hd.isNon]; simpa using hw)⟩
    · exact hw.elim
  | isnot =>
    refine ⟨_, op_notN, fun F H x y d d' Qv Q hd hd' hw k => ?_⟩
    have hw : wIs true d d' Qv := hw
    unfold wIs at hw
    split at hw
    · exact ⟨hd'.non_eq, k _ _ F H .refl (.bl _) (by rw [hd.isNon]; simpa using hw)⟩
    · exact hw.elim
def wGcd : T → T → (T → Prop) → Prop
  | .int a, .int b, Q => Q (.int ((Nat.gcd a.natAbs b.natAbs : Nat) : Int))
  | _, _, _ => False
theorem ve_gcd {X : Cx} {C : Ctx} {W : WX} {p pos : Pos} {e e' : Expr} {wa wb : WE} (hs : SrcStays C) (hg : Gl X "gcd") (hm : X.mg "gcd" = some (.builtin "math.gcd")) (ha : PE X e (cE C W wa)) (hb : PE X e' (cE C W wb))
    (h1 : starEach [e, e'] X.env = (false, eval e X.env) :: starEach [e'] X.env) (h2 : starEach [e'] X.env = (false, eval e' X.env) :: starEach [] X.env) :
    PE X (.Call (.Name "gcd" p) [e, e'] [] pos) (cE C W fun ρ Q E => wa ρ (fun d => wb ρ (fun d' => wGcd d d' Q) E) E) :=
  (pe_callBfun cr_gcd hg hm (va_cons hs ha (va_cons hs hb va_nil h2) h1) (by decide +kernel) h1 (by rw [h2]; rfl)).imp fun σ H Q ⟨F, ρ, Qv, Ev, rel, q, k, ex⟩ => ⟨F, ρ, fun ds => ∃ d d', ds = [d, d'] ∧ wGcd d d' Qv, Ev, rel, by
    show wa ρ (fun d => wb ρ (fun d' => ∃ x y, [d, d'] = [x, y] ∧ wGcd x y Qv) Ev) Ev
    have e1 : (fun d => wb ρ (fun d' => ∃ x y, [d, d'] = [x, y] ∧ wGcd x y Qv) Ev) = fun d => wb ρ (fun d' => wGcd d d' Qv) Ev := by
      funext d
      refine congrArg (fun z => wb ρ z Ev) (funext fun d' => ?_)
      exact propext ⟨fun ⟨x, y, z, q⟩ => by cases z; exact q, fun q => ⟨d, d', rfl, q⟩⟩
    rw [e1]
    exact q, fun vs ds F2 H2 x hds ⟨d, d', ed, q2⟩ => by
    subst ed
    obtain ⟨v, v', rfl, hd, hd'⟩ := hds.two
    unfold wGcd at q2
    split at q2
    · rw [hd.int_eq, hd'.int_eq]
      exact ⟨_, _, rfl, k _ _ F2 H2 x (.int _) q2⟩
    · exact q2.elim, ex⟩
end L3

/-! L3l: the syntax, its words, the check against the text. -/
namespace L3
open PySem PySem.Spec PyProof.Rows L2

/-- a def: how many arguments, how its value comes, its word -/
structure FnInfo where
  n : Nat
  fr : Nat
  sp : VSp
abbrev Gt := Str → Option FnInfo

/-- a target: a name, or a tuple of names -/
inductive Tg where
  | name (i : Nat)
  | tup (is : List Nat)
mutual
inductive E where
  | never
  | var (i : Nat)
  | int (n : Int)
  | bl (b : Bool)
  | non
  | str (x : Str)
  | bin (o : Bo) (a b : E)
  | neg (a : E)
  | not (a : E)
  | cmp (o : Co) (a b : E)
  | and (es : Es)
  | or (es : Es)
  | ite (c a b : E)
  | tup (es : Es)
  | lst (es : Es)
  | ix (a b : E)
  | sl (a : E) (lo hi : P)
  | rev (a : E)
  | bf (b : Bf) (es : Es)
  | gcd (a b : E)
  | isi (a : E) (t : Ty)
  | call (f : Str) (es : Es)
  | lc (elt : E) (t : Tg) (it : I) (ifs : Es) (own : List (Str × Nat))
inductive Es where
  | nil
  | cons (e : E) (es : Es)
/-- a part of a slice -/
inductive P where
  | no
  | at (e : E)
/-- what is walked -/
inductive I where
  | seq (e : E)
  | rng1 (e : E)
  | rng2 (a b : E)
  | enum (e : E)
end
def isTupX : Expr → Bool
  | .Tuple _ _ _ => true
  | _ => false
def I.needT : I → Bool
  | .enum _ => true
  | _ => false
def mk (v : WE) : WE × WT := (v, bOf v)
def rd (ρ : Rho) (i : Nat) (Q : T → Prop) : Prop :=
  match ρ[i]? with
  | some (.sh d) => Q d
  | _ => False
def wTup : List Nat → List T → Rho → (Rho → Prop) → Prop
  | [], ds, ρ, R => ds = [] ∧ R ρ
  | i :: is, ds, ρ, R => ∃ d r, ds = d :: r ∧ wTup is r (ρ.set i (.sh d)) R
def Tg.w : Tg → WG
  | .name i => fun d ρ R => R (ρ.set i (.sh d))
  | .tup is => fun d ρ R => ∃ ds, d = .tup ds ∧ ds.length = is.length ∧ wTup is ds ρ R
def Tg.slots : Tg → List Nat
  | .name i => [i]
  | .tup is => is
def tyIs : Ty → T → Option Bool
  | t, .non => some false
  | .bool, .bl _ => some true
  | .int, .bl _ => some true
  | _, .bl _ => some false
  | .int, .int _ => some true
  | _, .int _ => some false
  | .str, .str _ => some true
  | _, .str _ => some false
  | .list, .lst _ => some true
  | _, .lst _ => some false
  | .tuple, .tup _ => some true
  | _, .tup _ => some false
  | .dict, .dct _ => some true
  | _, .dct _ => some false
  | _, _ => none
def wCall (G : Gt) (f : Str) : List T → (T → Prop) → (Ex → Prop) → Prop := fun ds Q Ev =>
  match G f with
  | some i => ds.length = i.n ∧ i.sp ds Q Ev
  | none => False
mutual
/-- an expression's word; as a test -/
def w (G : Gt) : E → WE × WT
  | .never => (fun _ _ _ => False, fun _ _ _ => False)
  | .var i => mk fun ρ Q _ => rd ρ i Q
  | .int n => mk fun _ Q _ => Q (.int n)
  | .bl b => mk fun _ Q _ => Q (.bl b)
  | .non => mk fun _ Q _ => Q .non
  | .str x => mk fun _ Q _ => Q (.str x)
  | .bin o a b => mk fun ρ Q Ev => (w G a).1 ρ (fun d => (w G b).1 ρ (fun d' => o.w d d' Q) Ev) Ev
  | .neg a => mk fun ρ Q Ev => (w G a).1 ρ (fun d => wNeg d Q) Ev
  | .not a => (fun ρ Q Ev => (w G a).1 ρ (fun d => ∃ k, d = .bl k ∧ Q (.bl (!k))) Ev, fun ρ Q Ev => (w G a).2 ρ (fun k => Q (!k)) Ev)
  | .cmp o a b => mk fun ρ Q Ev => (w G a).1 ρ (fun d => (w G b).1 ρ (fun d' => o.w d d' Q) Ev) Ev
  | .and es => wAnd G es
  | .or es => wOr G es
  | .ite c a b => (fun ρ Q Ev => (w G c).2 ρ (fun k => if k = true then (w G a).1 ρ Q Ev else (w G b).1 ρ Q Ev) Ev, fun _ _ _ => False)
  | .tup es => mk fun ρ Q Ev => wEs G es ρ (fun ds => ds.length ≤ sizeLine ∧ Q (.tup ds)) Ev
  | .lst es => mk fun ρ Q Ev => wEs G es ρ (fun ds => ds.length ≤ sizeLine ∧ Q (.lst ds)) Ev
  | .ix a b => mk fun ρ Q Ev => (w G a).1 ρ (fun d => (w G b).1 ρ (fun d' => wIx d d' Q) Ev) Ev
  | .sl a lo hi => mk fun ρ Q Ev => (w G a).1 ρ (fun d => wP G lo ρ (fun l => wP G hi ρ (fun u => wSl d l u Q) Ev) Ev) Ev
  | .rev a => mk fun ρ Q Ev => (w G a).1 ρ (fun d => wRev d Q) Ev
  | .bf b es => mk fun ρ Q Ev => wEs G es ρ (fun ds => b.w ds Q) Ev
  | .gcd a b => mk fun ρ Q Ev => (w G a).1 ρ (fun d => (w G b).1 ρ (fun d' => wGcd d d' Q) Ev) Ev
  | .isi a t => mk fun ρ Q Ev => (w G a).1 ρ (fun d => ∃ b, tyIs t d = some b ∧ Q (.bl b)) Ev
  | .call f es => mk fun ρ Q Ev => wEs G es ρ (fun ds => wCall G f ds Q Ev) Ev
  | .lc elt t it ifs own => mk (wLcE (wI G it) t.w (wIfs G ifs) (w G elt).1 (own.map (·.2)))
def wEs (G : Gt) : Es → WA
  | .nil => fun _ Q _ => Q []
  | .cons e es => fun ρ Q Ev => (w G e).1 ρ (fun d => wEs G es ρ (fun ds => Q (d :: ds)) Ev) Ev
def wAnd (G : Gt) : Es → WE × WT
  | .nil => (fun _ _ _ => False, fun _ _ _ => False)
  | .cons e es => (fun ρ Q Ev => match es with
      | .nil => (w G e).1 ρ Q Ev
      | .cons _ _ => (w G e).1 ρ (fun d => ∃ k, d = .bl k ∧ if k = true then (wAnd G es).1 ρ Q Ev else Q (.bl false)) Ev,
    fun ρ Q Ev => match es with
      | .nil => (w G e).2 ρ Q Ev
      | .cons _ _ => (w G e).2 ρ (fun k => if k = true then (wAnd G es).2 ρ Q Ev else Q false) Ev)
def wOr (G : Gt) : Es → WE × WT
  | .nil => (fun _ _ _ => False, fun _ _ _ => False)
  | .cons e es => (fun ρ Q Ev => match es with
      | .nil => (w G e).1 ρ Q Ev
      | .cons _ _ => (w G e).1 ρ (fun d => ∃ k, d = .bl k ∧ if k = true then Q (.bl true) else (wOr G es).1 ρ Q Ev) Ev,
    fun ρ Q Ev => match es with
      | .nil => (w G e).2 ρ Q Ev
      | .cons _ _ => (w G e).2 ρ (fun k => if k = true then Q true else (wOr G es).2 ρ Q Ev) Ev)
/-- a clause's tests: none or one -/
def wIfs (G : Gt) : Es → WT
  | .nil => fun _ Q _ => Q true
  | .cons e es => (w G e).2
def wP (G : Gt) : P → WO
  | .no => fun _ Q _ => Q none
  | .at e => fun ρ Q Ev => (w G e).1 ρ (fun d => ∃ i, d = .int i ∧ Q (some i)) Ev
def wI (G : Gt) : I → WI
  | .seq e => fun ρ Q Ev => (w G e).1 ρ (fun d => ∃ xs, seqT d = some xs ∧ Q xs) Ev
  | .rng1 e => fun ρ Q Ev => (w G e).1 ρ (fun d => ∃ j : Int, d = .int j ∧ -(2 ^ 62) ≤ j ∧ j < 2 ^ 62 ∧ Q (rangeT 0 j.toNat)) Ev
  | .rng2 a b => fun ρ Q Ev => (w G a).1 ρ (fun d => (w G b).1 ρ (fun d' => ∃ i j : Int, d = .int i ∧ d' = .int j ∧ (-(2 ^ 62) ≤ i ∧ i < 2 ^ 62 ∧ -(2 ^ 62) ≤ j ∧ j < 2 ^ 62) ∧ Q (rangeT i (j - i).toNat)) Ev) Ev
  | .enum e => fun ρ Q Ev => (w G e).1 ρ (fun d => ∃ xs, seqT d = some xs ∧ Q (enumT xs)) Ev
end

/-! ### the check -/
structure Sc where
  N : List Str
  sc : Scope
  osc : Scope
  bn : List Str
  fns : List Str
  frs : List Str
  gcd : Bool := false
def Sc.blk (c : Sc) (scope : Scope) : Sc := { c with sc := relS scope c.sc, osc := scope }
def visB (c : Sc) (x : Str) : Bool := match c.sc.names.lookup x with
  | some .local => true
  | some .cell => true
  | some .free => true
  | _ => false
def locB (c : Scope) (x : Str) : Bool := match c.names.lookup x with
  | some .local => true
  | some .cell => true
  | _ => false
def globB (c : Sc) (x : Str) : Bool := match c.sc.names.lookup x with
  | some .globalImplicit => true
  | _ => false
/-- neither a star nor a slice -/
def plainX : Expr → Bool
  | .Starred _ _ => false
  | .Slice _ _ _ _ => false
  | _ => true
def chkName (c : Sc) (i : Nat) (x : Str) : Bool := decide (c.N[i]? = some x) && locB c.sc x && locB c.osc x
def chkNames (c : Sc) : List Nat → List Expr → Bool
  | [], xs => match xs with
    | [] => true
    | _ => false
  | i :: is, xs => match xs with
    | .Name y _ :: es => chkName c i y && chkNames c is es
    | _ => false
def Tg.chk (c : Sc) (t : Tg) (x : Expr) : Bool := match t, x with
  | .name i, .Name y _ => chkName c i y
  | .tup is, .Tuple es _ _ => chkNames c is es
  | _, _ => false
def Ty.name : Ty → Str
  | .str => "str" | .int => "int" | .bool => "bool" | .list => "list" | .tuple => "tuple" | .dict => "dict"
def noSet : Expr → Bool
  | .Set _ _ _ => false
  | _ => true
def isConst : Expr → Option Const
  | .Constant k _ _ => some k
  | _ => none
def chkC (k : Const) (x : Expr) : Bool := match x with
  | .Constant k' _ _ => decide (k' = k)
  | _ => false
mutual
def chk (c : Sc) : E → Expr → Bool
  | .never, x => plainX x
  | .var i, x => match x with
    | .Name y _ => decide (c.N[i]? = some y) && visB c y && !(y == ("__debug__" : Str)) && !(y == ("__classdict__" : Str))
    | _ => false
  | .int n, x => match x with
    | .Constant (.int m) _ _ => decide (m = n)
    | _ => false
  | .bl b, x => match x with
    | .Constant (.bool m) _ _ => decide (m = b)
    | _ => false
  | .non, x => match x with
    | .Constant .none _ _ => true
    | _ => false
  | .str s, x => match x with
    | .Constant (.str m) _ _ => decide (m = s)
    | _ => false
  | .bin o a b, x => match x with
    | .BinOp x o' y _ => decide (o' = o.op) && chk c a x && chk c b y
    | _ => false
  | .neg a, x => match x with
    | .UnaryOp .USub y _ => chk c a y
    | _ => false
  | .not a, x => match x with
    | .UnaryOp .Not y _ => chk c a y
    | _ => false
  | .cmp o a b, x => match x with
    | .Compare x [o'] [y] _ => decide (o' = o.op) && chk c a x && chk c b y && noSet y
    | _ => false
  | .and es, x => match x with
    | .BoolOp .And vs _ => chkEs c es vs
    | _ => false
  | .or es, x => match x with
    | .BoolOp .Or vs _ => chkEs c es vs
    | _ => false
  | .ite t a b, x => match x with
    | .IfExp t' x y _ => chk c t t' && chk c a x && chk c b y
    | _ => false
  | .tup es, x => match x with
    | .Tuple xs _ _ => chkEs c es xs
    | _ => false
  | .lst es, x => match x with
    | .List xs _ => chkEs c es xs
    | _ => false
  | .ix a b, x => match x with
    | .Subscript x y _ => chk c a x && chk c b y && plainX y
    | _ => false
  | .sl a lo hi, x => match x with
    | .Subscript x (.Slice l u none _) _ => chk c a x && chkP c lo l && chkP c hi u
    | _ => false
  | .rev a, x => match x with
    | .Subscript x (.Slice none none (some (.UnaryOp .USub (.Constant (.int 1) _ _) _)) _) _ => chk c a x
    | _ => false
  | .bf b es, x => match x with
    | .Call (.Name f _) xs [] _ => decide (f = b.name) && globB c f && decide (f ∈ c.bn) && chkEs c es xs && !xs.isEmpty
    | _ => false
  | .gcd a b, x => match x with
    | .Call (.Name f _) [x, y] [] _ => decide (f = "gcd") && globB c f && c.gcd && chk c a x && chk c b y
    | _ => false
  | .isi a t, x => match x with
    | .Call (.Name f _) [x, .Name ty _] [] _ => decide (f = "isinstance") && decide (ty = t.name) && globB c f && globB c ty && decide (f ∈ c.bn) && decide (ty ∈ c.bn) && chk c a x
    | _ => false
  | .call g es, x => match x with
    | .Call (.Name f _) xs [] _ => decide (f = g) && globB c f && decide (f ∈ c.fns) && chkEs c es xs && !xs.isEmpty
    | _ => false
  | .lc elt t it ifs own, x => match x with
    | .ListComp e [⟨tg, iter, fs, a⟩] scope _ => decide (a = 0) && chkI c it iter && (!it.needT || isTupX tg) && noSet iter && blkC c.N c.sc scope own && t.slots.all (fun i => decide (i ∈ own.map (·.2))) && t.chk (c.blk scope) tg && chkEs (c.blk scope) ifs fs && decide (fs.length ≤ 1) && chk (c.blk scope) elt e
    | _ => false
def chkEs (c : Sc) : Es → List Expr → Bool
  | .nil, xs => match xs with
    | [] => true
    | _ => false
  | .cons e es, xs => match xs with
    | x :: xs => chk c e x && chkEs c es xs
    | _ => false
def chkP (c : Sc) : P → Option Expr → Bool
  | .no, x => match x with
    | none => true
    | _ => false
  | .at e, x => match x with
    | some y => chk c e y
    | _ => false
def chkI (c : Sc) : I → Expr → Bool
  | .seq e, x => chk c e x
  | .rng1 e, x => match x with
    | .Call (.Name f _) [y] [] _ => decide (f = "range") && globB c f && decide (f ∈ c.bn) && chk c e y
    | _ => false
  | .rng2 a b, x => match x with
    | .Call (.Name f _) [y, z] [] _ => decide (f = "range") && globB c f && decide (f ∈ c.bn) && chk c a y && chk c b z
    | _ => false
  | .enum e, x => match x with
    | .Call (.Name f _) [y] [] _ => decide (f = "enumerate") && globB c f && decide (f ∈ c.bn) && chk c e y
    | _ => false
end
end L3

/-! L3m: the check is enough: expressions. -/
namespace L3
open PySem PySem.Spec PyProof.Rows L2

structure Good (C : Ctx) (G : Gt) (W : WX) (c : Sc) (X : Cx) : Prop where
  src : SrcStays C
  hN : X.N = c.N
  nd : c.N.Nodup
  hsc : X.env.scope = c.sc
  hK : X.K = C.K
  hm : X.mg = C.mg
  calm : X.calm = true
  units : X.A.units + 65 < cLine
  gd : X.A.guards = some []
  fn : ∀ x, locB c.osc x = true → locB c.sc x = true → X.fn x = true ∨ c.sc.names.lookup x = some .local
  bn : ∀ x ∈ c.bn, X.mg x = none
  fns : ∀ f ∈ c.fns, ∃ i a fd ps kk, G f = some i ∧ X.mg f = some (.ref a) ∧ PySem.W.keepIn X.K (.ref a) = true ∧ L2.Binds X.K fd ps [] ∧ FnG X.prog X.w X.K X.mg X.base kk a fd ps (spV C i.n i.fr i.sp) ∧ Room kk X.A ∧ (f == ("__debug__" : Str)) = false
  frs : ∀ f ∈ c.frs, ∃ i, G f = some i ∧ i.fr = 1
  gcdm : c.gcd = true → X.mg "gcd" = some (.builtin "math.gcd")
  tk : Takes X W

theorem relS_local {scope sc : Scope} {x : Str} (h : scope.names.lookup x = some .local) : (relS scope sc).names.lookup x = some .local := by
  unfold relS
  show List.lookup x (scope.names.map _) = _
  generalize scope.names = l at h
  induction l with
  | nil => cases h
  | cons p l ih =>
    obtain ⟨n, k⟩ := p
    rw [List.lookup_cons] at h
    rw [List.map_cons]
    cases e : x == n with
    | true =>
      rw [e] at h
      have hk : k = .local := Option.some.inj h
      subst hk
      simp [List.lookup_cons, e]
    | false =>
      rw [e] at h
      have := ih h
      by_cases q : (k == NameKind.free && sc.kind == .function && sc.names.lookup n == some .cell) = true
      · dsimp only; rw [if_pos q, List.lookup_cons, e]; exact this
      · dsimp only; rw [if_neg q, List.lookup_cons, e]; exact this
section
variable {C : Ctx} {G : Gt} {W : WX} {c : Sc} {X : Cx}
theorem Good.blk (g : Good C G W c X) (s : Shared) (H : Hp) (scope : Scope) (C' : Addr) (cl : List (Str × Addr)) (fp : List Addr) : Good C G WF (c.blk scope) (X.blk s H scope (compEnvC scope cl C' X.env) fp) := by
  refine ⟨g.src, g.hN, g.nd, ?_, g.hK, g.hm, g.calm, g.units, g.gd, fun x h1 _ => ?_, g.bn, g.fns, g.frs, g.gcdm, takes0⟩
  · show relS scope X.env.scope = relS scope c.sc
    rw [g.hsc]
  · unfold locB at h1
    split at h1
    · rename_i h; exact .inr (relS_local h)
    · rename_i h
      refine .inl ?_
      show (scope.names.lookup x == some .cell) = true
      rw [show scope.names.lookup x = some .cell from h]
      rfl
    · cases h1
theorem Good.vis (g : Good C G W c X) {x : Str} (h : visB c x = true) : Vis X.env.scope x := by
  unfold visB at h
  unfold Vis
  rw [g.hsc]
  split at h
  · rename_i e; exact .inl e
  · rename_i e; exact .inr (.inl e)
  · rename_i e; exact .inr (.inr e)
  · cases h
theorem Good.loc (g : Good C G W c X) {x : Str} (h : locB c.sc x = true) : L2.Loc X.env.scope x := by
  unfold locB at h
  unfold L2.Loc
  rw [g.hsc]
  split at h
  · rename_i e; exact .inl e
  · rename_i e; exact .inr e
  · cases h
theorem Good.glob (g : Good C G W c X) {x : Str} (h : globB c x = true) : Gl X x := by
  unfold globB at h
  show X.env.scope.names.lookup x = some .globalImplicit
  rw [g.hsc]
  split at h
  · assumption
  · cases h
theorem Good.pg (g : Good C G W c X) {i : Nat} {x : Str} {pos : Pos} (h : chkName c i x = true) : PG X (.Name x pos) (gName i) := by
  unfold chkName at h
  simp only [Bool.and_eq_true, decide_eq_true_eq] at h
  obtain ⟨⟨h1, h2⟩, h3⟩ := h
  refine pg_name (by rw [g.hN]; exact g.nd) (by rw [g.hN]; exact h1) (g.loc h2) ?_
  rcases g.fn x h3 h2 with z | z
  · exact .inl z
  · exact .inr (by rw [g.hsc]; exact z)
theorem star_plain {e : Expr} {es : List Expr} {env : Env} (h : plainX e = true) : starEach (e :: es) env = (false, eval e env) :: starEach es env := by
  cases e <;> first | rfl | cases h
theorem plain_ix {b : Expr} (h : plainX b = true) : PlainIx b := by
  intro o i
  cases b <;> first | rfl | cases h
def noStars : List Expr → Bool
  | [] => true
  | e :: es => plainX e && noStars es
theorem any_noStars {pos : Pos} {env : Env} : ∀ {es : List Expr}, noStars es = true → (backTo pos (starEach es env)).any (·.1) = false
  | [], _ => rfl
  | e :: es, h => by
    unfold noStars at h
    rw [Bool.and_eq_true] at h
    rw [star_plain h.1]
    show (false || (backTo pos (starEach es env)).any (·.1)) = false
    rw [Bool.false_or]
    exact any_noStars h.2
theorem nomark_set {op : CmpOp} {b : Expr} (h : noSet b = true) : behindInMarks op b = false := by
  cases b <;> first | rfl | cases h
theorem folded_set {e : Expr} {env : Env} (h : noSet e = true) (x : Value) : foldedSetIterable e env x = Pure.pure x := by
  cases e <;> first | rfl | cases h
theorem chk_plain {e : E} {x : Expr} (h : chk c e x = true) : plainX x = true := by
  cases e <;> unfold chk at h <;> first
    | exact h
    | (split at h <;> first | rfl | cases h)
theorem chkEs_stars : ∀ {es : Es} {xs : List Expr}, chkEs c es xs = true → noStars xs = true
  | .nil, xs, h => by
    unfold chkEs at h
    split at h
    · rfl
    · cases h
  | .cons e es, xs, h => by
    unfold chkEs at h
    split at h
    · rw [Bool.and_eq_true] at h
      unfold noStars
      rw [Bool.and_eq_true]
      exact ⟨chk_plain h.1, chkEs_stars h.2⟩
    · cases h
theorem names_stars {is : List Nat} : ∀ {es : List Expr}, chkNames c is es = true → (∀ env, (assignEach es env).length = is.length ∧ (assignEach es env).findIdx? (·.1) = none) := by
  induction is with
  | nil =>
    intro es h env
    unfold chkNames at h
    split at h
    · exact ⟨rfl, rfl⟩
    · cases h
  | cons i is ih =>
    intro es h env
    unfold chkNames at h
    split at h
    · rw [Bool.and_eq_true] at h
      obtain ⟨h1, h2⟩ := ih h.2 env
      refine ⟨by show _ + 1 = _ + 1; rw [h1], ?_⟩
      show List.findIdx? _ ((false, _) :: _) = none
      rw [List.findIdx?_cons]
      simp [h2]
    · cases h
theorem Good.pgs (g : Good C G W c X) {sl : List Nat} : ∀ {is : List Nat} {es : List Expr}, chkNames c is es = true → (∀ i ∈ is, i ∈ sl) → PGs X es (cGs C sl (wTup is))
  | [], es, h, _ => by
    unfold chkNames at h
    split at h
    · exact vgs_nil
    · cases h
  | i :: is, es, h, hm => by
    unfold chkNames at h
    split at h
    · rw [Bool.and_eq_true] at h
      exact vgs_cons g.src (vg_name (g.pg h.1) (hm _ List.mem_cons_self)) (g.pgs h.2 fun j hj => hm j (List.mem_cons_of_mem _ hj)) rfl
    · cases h
theorem Good.tg (g : Good C G W c X) {t : Tg} {x : Expr} {sl : List Nat} (h : t.chk c x = true) (hm : ∀ i ∈ t.slots, i ∈ sl) : PG X x (cG C sl t.w) := by
  unfold Tg.chk at h
  split at h
  · exact vg_name (g.pg h) (hm _ List.mem_cons_self)
  · exact vg_tup g.hK g.calm (g.pgs h hm) (names_stars h _).1 (names_stars h _).2
  · cases h
end
end L3

/-! L3n: the check is enough: expressions, by induction. -/
namespace L3
open PySem PySem.Spec PyProof.Rows L2

section
variable {C : Ctx} {G : Gt} {W : WX} {X : Cx} {e : Expr}
theorem both {w' : WE} (h : PE X e (cE C W w')) (he : ∀ whole, isTrue e X.env whole = (do let v ← whole; standAt e.pos; holding [v] (truthy v))) : PE X e (cE C W (mk w').1) ∧ PT X e (cT C W (mk w').2) := ⟨h, vt_val h he⟩
theorem PTs.imp' {X : Cx} {e : List Expr} {t t' : TT} (h : PTs X e t) (i : ∀ σ H Q, t' σ H Q → t σ H Q) : PTs X e t' := ⟨fun pins s σ H Q I q => h.run pins s σ H Q I (i σ H Q q)⟩
theorem vts_nil : PTs X [] (cT C W fun _ Q _ => Q true) := PTs.imp' pts_nil fun σ H Q ⟨F, ρ, Qv, Ev, rel, q, k, ex⟩ => k true F H .refl q
def Ty.tn : Ty → String
  | .str => "str" | .int => "int" | .bool => "bool" | .list => "list" | .tuple => "tuple" | .dict => "dict"
/-- isinstance -/
theorem isi_d {K : PySem.W.Frag} {F : Addr → Prop} {H : Hp} {C : Ctx} (hK : K = C.K) {t : Ty} {v : V} {d : T} {b : Bool} (hd : D C H F v d) (ht : tyIs t d = some b) :
    ∃ (tv : Value), TyX K H v tv ∧ PySem.W.kitOne K tv (.type t.tn) = some b := by
  subst hK
  cases hd with
  | non =>
    have e : b = false := by cases t <;> (cases ht; rfl)
    subst e
    exact ⟨_, .base .non, kit_ty (by cases t <;> decide +kernel)⟩
  | bl x => exact ⟨_, .base (.bl x), kit_ty (by cases t <;> (cases ht; decide +kernel))⟩
  | int x => exact ⟨_, .base (.int x), kit_ty (by cases t <;> (cases ht; decide +kernel))⟩
  | str x => exact ⟨_, .base (.str x), kit_ty (by cases t <;> (cases ht; decide +kernel))⟩
  | lst h1 _ _ => exact ⟨_, .base (.lst h1), kit_ty (by cases t <;> (cases ht; decide +kernel))⟩
  | tup h1 _ =>
    have k : PySem.W.kitOne C.K (.type "tuple") (.type t.tn) = some b := kit_ty (by cases t <;> (cases ht; decide +kernel))
    rcases h1 with (h1 | ⟨o, h1⟩) | ⟨o, its, n, h1, h2, _⟩
    · exact ⟨_, .base (.tup h1), k⟩
    · exact ⟨_, .fTuple h1, k⟩
    · exact ⟨_, .kTuple h1 h2, k⟩
  | dctK h1 _ _ => exact ⟨_, .base (.dK h1), kit_ty (by cases t <;> (cases ht; decide +kernel))⟩
  | dctT h1 _ _ => exact ⟨_, .base (.dT h1), kit_ty (by cases t <;> (cases ht; decide +kernel))⟩
  | fn h => cases t <;> cases ht
  | src h => cases t <;> cases ht
theorem boot_ty (t : Ty) : bootBuiltins t.name = some (.type t.tn) := by cases t <;> decide +kernel
theorem ve_isi {t : Ty} {a : Expr} {wa : WE} {p p2 pos : Pos} (hs : SrcStays C) (hK : X.K = C.K) (ha : PE X a (cE C W wa)) (hg : Gl X "isinstance") (hm : X.mg "isinstance" = none) (hg2 : Gl X t.name) (hm2 : X.mg t.name = none) (hp : plainX a = true) :
    PE X (.Call (.Name "isinstance" p) [a, .Name t.name p2] [] pos) (cE C W fun ρ Q E => wa ρ (fun d => ∃ b, tyIs t d = some b ∧ Q (.bl b)) E) := by
  have pt : PE X (.Name t.name p2) (tC (.ty t.tn)) := pe_bltn hg2 hm2 (boot_ty t) rfl (by cases t <;> decide +kernel) (by cases t <;> decide +kernel)
  refine (pe_callB call_isi hg hm (by decide +kernel) (pa_cons ha (pa_cons pt pa_nil rfl) (star_plain hp)) (by decide +kernel) (by decide +kernel) (star_plain hp) rfl).imp fun σ H Q ⟨F, ρ, Qv, Ev, rel, q, k, ex⟩ => ?_
  refine ⟨F, ρ, _, Ev, rel, q, fun v d F1 H1 x1 hd ⟨b, hb, q1⟩ => ?_, ex⟩
  obtain ⟨tv, h1, h2⟩ := isi_d hK hd hb
  exact ⟨v, _, tv, _, b, rfl, .ty _, h1, h2, k _ _ F1 H1 x1 (.bl b) q1⟩
end

theorem needT_of {i : I} {tg : Expr} (h : (!i.needT || isTupX tg) = true) : i.needT = true → isTupX tg = true := fun z => by
  rw [z] at h
  exact h
mutual
theorem snd {C : Ctx} {G : Gt} : ∀ (e : E) {W : WX} {c : Sc} {X : Cx} (g : Good C G W c X) {x : Expr}, chk c e x = true → PE X x (cE C W (w G e).1) ∧ PT X x (cT C W (w G e).2)
  | .never, W, c, X, g, x, h => ⟨⟨fun pins s σ H Q I ⟨_, _, _, _, _, q, _⟩ => q.elim⟩, ⟨fun pins s σ H Q I ⟨_, _, _, _, _, q, _⟩ => q.elim⟩⟩
  | .var i, W, c, X, g, x, h => by
    unfold chk at h
    split at h
    · simp only [Bool.and_eq_true, decide_eq_true_eq, Bool.not_eq_true'] at h
      obtain ⟨⟨⟨h1, h2⟩, h3⟩, h4⟩ := h
      have h := (ve_var (C := C) (W := W) (pe_var (pos := by assumption) (by rw [g.hN]; exact h1) (g.vis h2) h3 h4)).imp (t' := cE C W fun ρ Q _ => rd ρ i Q) fun σ H Q ⟨F, ρ, Qv, Ev, rel, q, k, ex⟩ => ⟨F, ρ, Qv, Ev, rel, by
        have q : rd ρ i Qv := q
        unfold rd at q
        split at q
        · exact ⟨_, by assumption, q⟩
        · exact q.elim, k, ex⟩
      exact both h fun _ => rfl
    · cases h
  | .int n, W, c, X, g, x, h => by
    unfold chk at h
    split at h
    · have e := of_decide_eq_true h
      subst e
      exact both (ve_const pe_int fun H F => .int _) fun _ => rfl
    · cases h
  | .bl n, W, c, X, g, x, h => by
    unfold chk at h
    split at h
    · have e := of_decide_eq_true h
      subst e
      exact both (ve_const pe_bl fun H F => .bl _) fun _ => rfl
    · cases h
  | .non, W, c, X, g, x, h => by
    unfold chk at h
    split at h
    · exact both (ve_const pe_non fun H F => .non) fun _ => rfl
    · cases h
  | .str n, W, c, X, g, x, h => by
    unfold chk at h
    split at h
    · have e := of_decide_eq_true h
      subst e
      exact both (ve_const pe_str fun H F => .str _) fun _ => rfl
    · cases h
  | .bin o a b, W, c, X, g, x, h => by
    unfold chk at h
    split at h
    · simp only [Bool.and_eq_true, decide_eq_true_eq] at h
      obtain ⟨⟨rfl, h2⟩, h3⟩ := h
      obtain ⟨r, hr, ho⟩ := bo_ok (X := X) g.src g.hK o
      exact both (ve_bin g.src hr ho (snd a g h2).1 (snd b g h3).1) fun _ => rfl
    · cases h
  | .neg a, W, c, X, g, x, h => by
    unfold chk at h
    split at h
    · exact both (ve_un un_neg ud_neg (snd a g h).1) fun _ => rfl
    · cases h
  | .not a, W, c, X, g, x, h => by
    unfold chk at h
    split at h
    · exact ⟨ve_not (snd a g h).1, vt_not (snd a g h).2⟩
    · cases h
  | .cmp o a b, W, c, X, g, x, h => by
    unfold chk at h
    split at h
    · simp only [Bool.and_eq_true, decide_eq_true_eq] at h
      obtain ⟨⟨⟨rfl, h2⟩, h3⟩, h4⟩ := h
      obtain ⟨r, hr, ho⟩ := co_ok (X := X) g.src g.hK g.units o
      exact ⟨ve_cmp g.src hr ho (snd a g h2).1 (snd b g h3).1 (nomark_set h4), vt_cmp g.src hr ho (snd a g h2).1 (snd b g h3).1 (nomark_set h4)⟩
    · cases h
  | .and es, W, c, X, g, x, h => by
    unfold chk at h
    split at h
    · exact ⟨(sndAnd es g h).1, (sndAnd es g h).2.pt⟩
    · cases h
  | .or es, W, c, X, g, x, h => by
    unfold chk at h
    split at h
    · exact ⟨(sndOr es g h).1, (sndOr es g h).2.pt⟩
    · cases h
  | .ite t a b, W, c, X, g, x, h => by
    unfold chk at h
    split at h
    · simp only [Bool.and_eq_true] at h
      exact ⟨ve_ite g.src (snd t g h.1.1).2 (snd a g h.1.2).1 (snd b g h.2).1, ⟨fun pins s σ H Q I ⟨_, _, _, _, _, q, _⟩ => q.elim⟩⟩
    · cases h
  | .tup es, W, c, X, g, x, h => by
    unfold chk at h
    split at h
    · exact both (ve_tup g.src (sndEs es g h)) fun _ => rfl
    · cases h
  | .lst es, W, c, X, g, x, h => by
    unfold chk at h
    split at h
    · exact both (ve_lst g.src (sndEs es g h)) fun _ => rfl
    · cases h
  | .ix a b, W, c, X, g, x, h => by
    unfold chk at h
    split at h
    · simp only [Bool.and_eq_true] at h
      exact both (ve_ix g.src ix_seq (by rw [g.hK]; exact od_ix) (snd a g h.1.1).1 (snd b g h.1.2).1 (plain_ix h.2)) fun _ => rfl
    · cases h
  | .sl a lo hi, W, c, X, g, x, h => by
    unfold chk at h
    split at h
    · simp only [Bool.and_eq_true] at h
      exact both (ve_slice g.src g.hK (snd a g h.1.1).1 (sndP lo g h.1.2) (sndP hi g h.2)) fun _ => rfl
    · cases h
  | .rev a, W, c, X, g, x, h => by
    unfold chk at h
    split at h
    · exact both (ve_rev g.src (snd a g h).1) fun _ => rfl
    · cases h
  | .bf b es, W, c, X, g, x, h => by
    unfold chk at h
    split at h
    · rename_i f p xs pos
      simp only [Bool.and_eq_true, decide_eq_true_eq, Bool.not_eq_true'] at h
      obtain ⟨⟨⟨⟨rfl, h2⟩, h3⟩, h4⟩, h5⟩ := h
      cases xs with
      | nil => cases h5
      | cons y ys =>
        have st := chkEs_stars h4
        unfold noStars at st
        rw [Bool.and_eq_true] at st
        exact both (ve_bf g.src g.hK g.calm g.gd (by have := g.units; omega) b (g.glob h2) (g.bn _ h3) (sndEs es g h4) (star_plain st.1) (any_noStars st.2)) fun _ => rfl
    · cases h
  | .gcd a b, W, c, X, g, x, h => by
    unfold chk at h
    split at h
    · simp only [Bool.and_eq_true, decide_eq_true_eq] at h
      obtain ⟨⟨⟨⟨rfl, h2⟩, h3⟩, h4⟩, h5⟩ := h
      exact both (ve_gcd g.src (g.glob h2) (g.gcdm h3) (snd a g h4).1 (snd b g h5).1 (star_plain (chk_plain h4)) (star_plain (chk_plain h5))) fun _ => rfl
    · cases h
  | .isi a t, W, c, X, g, x, h => by
    unfold chk at h
    split at h
    · simp only [Bool.and_eq_true, decide_eq_true_eq] at h
      obtain ⟨⟨⟨⟨⟨⟨rfl, rfl⟩, h2⟩, h3⟩, h4⟩, h5⟩, h6⟩ := h
      exact both (ve_isi g.src g.hK (snd a g h6).1 (g.glob h2) (g.bn _ h4) (g.glob h3) (g.bn _ h5) (chk_plain h6)) fun _ => rfl
    · cases h
  | .call f es, W, c, X, g, x, h => by
    unfold chk at h
    split at h
    · rename_i f' p xs pos
      simp only [Bool.and_eq_true, decide_eq_true_eq, Bool.not_eq_true'] at h
      obtain ⟨⟨⟨⟨rfl, h2⟩, h3⟩, h4⟩, h5⟩ := h
      cases xs with
      | nil => cases h5
      | cons y ys =>
        have st := chkEs_stars h4
        unfold noStars at st
        rw [Bool.and_eq_true] at st
        obtain ⟨i, a, fd, ps, kk, gi, hm, hk, hb, Fn, hr, hd⟩ := g.fns _ h3
        have key : PE X (.Call (.Name f' p) (y :: ys) [] pos) (cE C W fun ρ Q E => wEs G es ρ (fun ds => ds.length = i.n ∧ i.sp ds Q E) E) := by
          cases q : i.fr with
          | zero =>
            rw [q] at Fn
            exact ve_call g.src Fn hr g.gd (g.glob h2) hm hk hb g.tk (sndEs es g h4) hd (star_plain st.1) (any_noStars st.2)
          | succ m =>
            rw [q] at Fn
            exact ve_of_vf g.src (vf_call g.src Fn hr g.gd (g.glob h2) hm hk hb g.tk (sndEs es g h4) hd (star_plain st.1) (any_noStars st.2))
        refine both (key.imp fun σ H Q ⟨F, ρ, Qv, Ev, rel, q, k, ex⟩ => ⟨F, ρ, Qv, Ev, rel, ?_, k, ex⟩) fun _ => rfl
        have e : (fun ds => wCall G f' ds Qv Ev) = fun ds => ds.length = i.n ∧ i.sp ds Qv Ev := by
          funext ds
          unfold wCall
          rw [gi]
        have q : wEs G es ρ (fun ds => wCall G f' ds Qv Ev) Ev := q
        rw [e] at q
        exact q
    · cases h
  | .lc elt t it ifs own, W, c, X, g, x, h => by
    unfold chk at h
    split at h
    · rename_i e tg iter fs a scope pos
      simp only [Bool.and_eq_true, decide_eq_true_eq] at h
      obtain ⟨⟨⟨⟨⟨⟨⟨⟨⟨rfl, h2⟩, hT⟩, h3⟩, h4⟩, h5⟩, h6⟩, h7⟩, h8⟩, h9⟩ := h
      have h5' : ∀ i ∈ t.slots, i ∈ own.map (·.2) := fun i hi => of_decide_eq_true (List.all_eq_true.mp h5 i hi)
      refine both (ve_lc g.calm (by rw [g.hN]; exact g.nd) (sndI it g h2 (needT_of hT)) (by rw [g.hN, g.hsc]; exact blkOk_by h4) (fun s H C' cl fp => (g.blk s H scope C' cl fp).tg h6 h5') (fun s H C' cl fp => sndIfs ifs (g.blk s H scope C' cl fp) h7 h8) (fun s H C' cl fp => (snd elt (g.blk s H scope C' cl fp) h9).1) (folded_set h3) g.src) fun _ => rfl
    · cases h
theorem sndEs {C : Ctx} {G : Gt} : ∀ (es : Es) {W : WX} {c : Sc} {X : Cx} (g : Good C G W c X) {xs : List Expr}, chkEs c es xs = true → PA X xs (cA C W (wEs G es))
  | .nil, W, c, X, g, xs, h => by
    unfold chkEs at h
    split at h
    · exact va_nil
    · cases h
  | .cons e es, W, c, X, g, xs, h => by
    unfold chkEs at h
    split at h
    · rw [Bool.and_eq_true] at h
      exact va_cons g.src (snd e g h.1).1 (sndEs es g h.2) (star_plain (chk_plain h.1))
    · cases h
theorem sndAnd {C : Ctx} {G : Gt} : ∀ (es : Es) {W : WX} {c : Sc} {X : Cx} (g : Good C G W c X) {xs : List Expr} {pos : Pos}, chkEs c es xs = true → PE X (.BoolOp .And xs pos) (cE C W (wAnd G es).1) ∧ PW X (.BoolOp .And xs pos) (cT C W (wAnd G es).2)
  | .nil, W, c, X, g, xs, pos, h => ⟨⟨fun pins s σ H Q I ⟨_, _, _, _, _, q, _⟩ => q.elim⟩, ⟨fun wh pins s σ H Q I ⟨_, _, _, _, _, q, _⟩ => q.elim⟩⟩
  | .cons e .nil, W, c, X, g, xs, pos, h => by
    unfold chkEs at h
    split at h
    · rw [Bool.and_eq_true] at h
      obtain ⟨h1, h2⟩ := h
      unfold chkEs at h2
      split at h2
      · exact ⟨ve_one (snd e g h1).1, vw_and1 (snd e g h1).2⟩
      · cases h2
    · cases h
  | .cons e (.cons e2 es), W, c, X, g, xs, pos, h => by
    unfold chkEs at h
    split at h
    · rw [Bool.and_eq_true] at h
      obtain ⟨h1, h2⟩ := h
      have ih := sndAnd (.cons e2 es) g h2 (pos := pos)
      unfold chkEs at h2
      split at h2
      · exact ⟨ve_and g.src (snd e g h1).1 ih.1, vw_and g.src (snd e g h1).2 ih.2⟩
      · cases h2
    · cases h
theorem sndOr {C : Ctx} {G : Gt} : ∀ (es : Es) {W : WX} {c : Sc} {X : Cx} (g : Good C G W c X) {xs : List Expr} {pos : Pos}, chkEs c es xs = true → PE X (.BoolOp .Or xs pos) (cE C W (wOr G es).1) ∧ PW X (.BoolOp .Or xs pos) (cT C W (wOr G es).2)
  | .nil, W, c, X, g, xs, pos, h => ⟨⟨fun pins s σ H Q I ⟨_, _, _, _, _, q, _⟩ => q.elim⟩, ⟨fun wh pins s σ H Q I ⟨_, _, _, _, _, q, _⟩ => q.elim⟩⟩
  | .cons e .nil, W, c, X, g, xs, pos, h => by
    unfold chkEs at h
    split at h
    · rw [Bool.and_eq_true] at h
      obtain ⟨h1, h2⟩ := h
      unfold chkEs at h2
      split at h2
      · exact ⟨ve_one (snd e g h1).1, vw_or1 (snd e g h1).2⟩
      · cases h2
    · cases h
  | .cons e (.cons e2 es), W, c, X, g, xs, pos, h => by
    unfold chkEs at h
    split at h
    · rw [Bool.and_eq_true] at h
      obtain ⟨h1, h2⟩ := h
      have ih := sndOr (.cons e2 es) g h2 (pos := pos)
      unfold chkEs at h2
      split at h2
      · exact ⟨ve_or g.src (snd e g h1).1 ih.1, vw_or g.src (snd e g h1).2 ih.2⟩
      · cases h2
    · cases h
theorem sndIfs {C : Ctx} {G : Gt} : ∀ (es : Es) {W : WX} {c : Sc} {X : Cx} (g : Good C G W c X) {xs : List Expr}, chkEs c es xs = true → xs.length ≤ 1 → PTs X xs (cT C W (wIfs G es))
  | .nil, W, c, X, g, xs, h, hl => by
    unfold chkEs at h
    split at h
    · exact vts_nil
    · cases h
  | .cons e .nil, W, c, X, g, xs, h, hl => by
    unfold chkEs at h
    split at h
    · rw [Bool.and_eq_true] at h
      obtain ⟨h1, h2⟩ := h
      unfold chkEs at h2
      split at h2
      · exact pts_one (snd e g h1).2
      · cases h2
    · cases h
  | .cons e (.cons e2 es), W, c, X, g, xs, h, hl => by
    unfold chkEs at h
    split at h
    · rw [Bool.and_eq_true] at h
      obtain ⟨h1, h2⟩ := h
      unfold chkEs at h2
      split at h2
      · simp at hl
      · cases h2
    · cases h
theorem sndP {C : Ctx} {G : Gt} : ∀ (p : P) {W : WX} {c : Sc} {X : Cx} (g : Good C G W c X) {x : Option Expr}, chkP c p x = true → PO X x (cO C W (wP G p))
  | .no, W, c, X, g, x, h => by
    unfold chkP at h
    split at h
    · exact vo_none
    · cases h
  | .at e, W, c, X, g, x, h => by
    unfold chkP at h
    split at h
    · exact vo_some (snd e g h).1
    · cases h
theorem sndI {C : Ctx} {G : Gt} : ∀ (i : I) {W : WX} {c : Sc} {X : Cx} (g : Good C G W c X) {x tg : Expr}, chkI c i x = true → (i.needT = true → isTupX tg = true) → PI X tg x (cI C W (wI G i))
  | .seq e, W, c, X, g, x, tg, h, _ => by
    unfold chkI at h
    exact vi_seq g.src g.hK (snd e g h).1
  | .rng1 e, W, c, X, g, x, tg, h, _ => by
    unfold chkI at h
    split at h
    · simp only [Bool.and_eq_true, decide_eq_true_eq] at h
      obtain ⟨⟨⟨rfl, h2⟩, h3⟩, h4⟩ := h
      have st := chk_plain h4
      refine (vi_range1 (g.glob h2) (g.bn _ h3) (va_cons g.src (snd e g h4).1 va_nil (star_plain st)) (star_plain st)).imp fun σ H R ⟨F, ρ, Qv, Ev, rel, q, k, ex⟩ => ⟨F, ρ, Qv, Ev, rel, ?_, k, ex⟩
      have e1 : (fun d => ∃ j : Int, [d] = [T.int j] ∧ -(2 ^ 62) ≤ j ∧ j < 2 ^ 62 ∧ Qv (rangeT 0 j.toNat)) = fun d => ∃ j : Int, d = T.int j ∧ -(2 ^ 62) ≤ j ∧ j < 2 ^ 62 ∧ Qv (rangeT 0 j.toNat) := by
        funext d
        simp only [List.cons.injEq, and_true]
      show (w G e).1 ρ (fun d => ∃ j : Int, [d] = [T.int j] ∧ -(2 ^ 62) ≤ j ∧ j < 2 ^ 62 ∧ Qv (rangeT 0 j.toNat)) Ev
      rw [e1]
      exact q
    · cases h
  | .enum e, W, c, X, g, x, tg, h, hT => by
    unfold chkI at h
    split at h
    · simp only [Bool.and_eq_true, decide_eq_true_eq] at h
      obtain ⟨⟨⟨rfl, h2⟩, h3⟩, h4⟩ := h
      have hT := hT rfl
      unfold isTupX at hT
      split at hT
      · exact vi_enum g.src g.hK (g.glob h2) (g.bn _ h3) (snd e g h4).1 (star_plain (chk_plain h4))
      · cases hT
    · cases h
  | .rng2 a b, W, c, X, g, x, tg, h, _ => by
    unfold chkI at h
    split at h
    · simp only [Bool.and_eq_true, decide_eq_true_eq] at h
      obtain ⟨⟨⟨⟨rfl, h2⟩, h3⟩, h4⟩, h5⟩ := h
      have st := chk_plain h4
      have st2 := chk_plain h5
      refine (vi_range2 (g.glob h2) (g.bn _ h3) (va_cons g.src (snd a g h4).1 (va_cons g.src (snd b g h5).1 va_nil (star_plain st2)) (star_plain st)) (by rw [star_plain st, star_plain st2]; rfl) (star_plain st2)).imp fun σ H R ⟨F, ρ, Qv, Ev, rel, q, k, ex⟩ => ⟨F, ρ, Qv, Ev, rel, ?_, k, ex⟩
      have e1 : (fun d => (w G b).1 ρ (fun d' => ∃ i j : Int, [d, d'] = [T.int i, T.int j] ∧ (-(2 ^ 62) ≤ i ∧ i < 2 ^ 62 ∧ -(2 ^ 62) ≤ j ∧ j < 2 ^ 62) ∧ Qv (rangeT i (j - i).toNat)) Ev) = fun d => (w G b).1 ρ (fun d' => ∃ i j : Int, d = T.int i ∧ d' = T.int j ∧ (-(2 ^ 62) ≤ i ∧ i < 2 ^ 62 ∧ -(2 ^ 62) ≤ j ∧ j < 2 ^ 62) ∧ Qv (rangeT i (j - i).toNat)) Ev := by
        funext d
        refine congrArg (fun z => (w G b).1 ρ z Ev) (funext fun d' => ?_)
        simp only [List.cons.injEq, and_true, and_assoc]
      show (w G a).1 ρ (fun d => (w G b).1 ρ (fun d' => ∃ i j : Int, [d, d'] = [T.int i, T.int j] ∧ (-(2 ^ 62) ≤ i ∧ i < 2 ^ 62 ∧ -(2 ^ 62) ≤ j ∧ j < 2 ^ 62) ∧ Qv (rangeT i (j - i).toNat)) Ev) Ev
      rw [e1]
      exact q
    · cases h
end
end L3

/-! L3o: new things of the frame's own; several targets at once; writes. -/
namespace L3
open PySem PySem.Spec PyProof.Rows L2

section
variable {C : Ctx} {W : WX} {X : Cx} {F F1 : Addr → Prop} {H H1 : Hp} {ρ : Rho} {σ : L2.St}
/-- a list was just laid -/
theorem fin_own (hs : SrcStays C) {p : Addr} {xs : List V} {ds : List T} {Q : VK} {Qv : T → Prop} (dm : ∀ b, F1 b → ∃ o, H1 b = some o) (x1 : Ext F H F1 H1) (hp : H1 p = none) (hd : Ds C H1 F1 xs ds) (q : Qv (.lst ds))
    (k : ∀ a d F' H', Ext F H F' H' → OwnAt C H' F' 1 a d → (owned H' 1 a).Nodup → (∀ b ∈ owned H' 1 a, ¬ F' b ∧ H b = none ∧ ∃ o, H' b = some o ∧ LD o) → Qv d → Q (.ref a) H') : Q (.ref p) (upd H1 p (.lst xs)) := by
  have nf : ¬ F1 p := fun z => by
    obtain ⟨o, ho⟩ := dm p z
    rw [hp] at ho; cases ho
  have np : H p = none := by
    cases e : H p with
    | none => rfl
    | some o => rw [x1.same p o e] at hp; cases hp
  refine k p _ F1 _ (x1.trans (.new_tup hp)) (own_new hs hp nf hd) (by show [p].Nodup; simp) (fun b hb => ?_) q
  have e : b = p := by
    have : b ∈ [p] := hb
    simpa using this
  subst e
  exact ⟨nf, np, _, upd_same, trivial⟩
variable {e a b : Expr} {es : List Expr} {ws : WA} {wa wb : WE} {pos p2 : Pos}
theorem vf_lst (hs : SrcStays C) (h : PA X es (cA C W ws)) : PE X (.List es pos) (cF C W 1 fun ρ Q E => ws ρ (fun ds => ds.length ≤ sizeLine ∧ Q (.lst ds)) E) :=
  (pe_lst h).imp fun σ H Q ⟨F, ρ, Qv, Ev, rel, q, k, ex⟩ => ⟨F, ρ, _, Ev, rel, q, fun vs ds F1 H1 x1 hds q1 =>
    ⟨by rw [hds.length]; exact q1.1, fun p hp => fin_own hs (rel.ext hs x1).dom x1 hp hds q1.2 k⟩, ex⟩
def wCatF (d d' : T) (Q : T → Prop) : Prop :=
  match d, d' with
  | .lst xs, .lst ys => xs.length + ys.length ≤ sizeLine ∧ Q (.lst (xs ++ ys))
  | _, _ => False
theorem vf_add (hs : SrcStays C) (ha : PE X a (cE C W wa)) (hb : PE X b (cE C W wb)) : PE X (.BinOp a .Add b pos) (cF C W 1 fun ρ Q E => wa ρ (fun d => wb ρ (fun d' => wCatF d d' Q) E) E) :=
  (pe_op op_cat ha hb).imp fun σ H Q ⟨F, ρ, Qv, Ev, rel, q, k, ex⟩ => ⟨F, ρ, _, Ev, rel, q, fun v d F1 H1 x1 hd q1 =>
    ⟨F1, ρ, _, Ev, rel.ext hs x1, q1, fun v2 d2 F2 H2 x2 hd2 q2 => by
      unfold wCatF at q2
      split at q2
      · obtain ⟨a, xs, rfl, ha, fa, hx⟩ := (hd.later hs x2.later).isL
        obtain ⟨b, ys, rfl, hb, fb, hy⟩ := hd2.isL
        exact ⟨a, b, xs, ys, rfl, rfl, ha, hb, by rw [hx.length, hy.length]; exact q2.1, fun p hp => fin_own hs (rel.ext hs (x1.trans x2)).dom (x1.trans x2) hp (hx.append hy) q2.2 k⟩
      · exact q2.elim, ex.ext x1⟩, ex⟩
def wRepF (d d' : T) (Q : T → Prop) : Prop :=
  match d, d' with
  | .lst xs, .int k => (-(2 ^ 63) ≤ k ∧ k < 2 ^ 63 ∧ xs.length * k.toNat ≤ sizeLine) ∧ Q (.lst (timesT k xs))
  | _, _ => False
theorem vf_rep (hs : SrcStays C) (ha : PE X a (cE C W wa)) (hb : PE X b (cE C W wb)) : PE X (.BinOp a .Mult b pos) (cF C W 1 fun ρ Q E => wa ρ (fun d => wb ρ (fun d' => wRepF d d' Q) E) E) :=
  (pe_op op_rep ha hb).imp fun σ H Q ⟨F, ρ, Qv, Ev, rel, q, k, ex⟩ => ⟨F, ρ, _, Ev, rel, q, fun v d F1 H1 x1 hd q1 =>
    ⟨F1, ρ, _, Ev, rel.ext hs x1, q1, fun v2 d2 F2 H2 x2 hd2 q2 => by
      unfold wRepF at q2
      split at q2
      · obtain ⟨a, xs, rfl, ha, fa, hx⟩ := (hd.later hs x2.later).isL
        rw [hd2.int_eq]
        exact ⟨a, _, xs, rfl, rfl, ha, q2.1.1, q2.1.2.1, by rw [hx.length]; exact q2.1.2.2, fun p hp => fin_own hs (rel.ext hs (x1.trans x2)).dom (x1.trans x2) hp (hx.rep _) q2.2 k⟩
      · exact q2.elim, ex.ext x1⟩, ex⟩
def wListF : List T → (T → Prop) → Prop
  | [.lst xs], Q => Q (.lst xs)
  | [.tup xs], Q => Q (.lst xs)
  | _, _ => False
theorem vf_list (hs : SrcStays C) (hK : X.K = C.K) {p : Pos} (hg : Gl X "list") (hm : X.mg "list" = none) (ha : PA X (e :: es) (cA C W ws))
    (he : starEach (e :: es) X.env = (false, eval e X.env) :: starEach es X.env) (hpl : (backTo pos (starEach es X.env)).any (·.1) = false) :
    PE X (.Call (.Name "list" p) (e :: es) [] pos) (cF C W 1 fun ρ Q E => ws ρ (fun ds => wListF ds Q) E) :=
  (pe_callTy call_list_of hg hm (by decide +kernel) ha (by decide +kernel) (by decide +kernel) he hpl).imp fun σ H Q ⟨F, ρ, Qv, Ev, rel, q, k, ex⟩ => ⟨F, ρ, _, Ev, rel, q, fun vs ds F1 H1 x1 hds q1 => by
    unfold wListF at q1
    split at q1
    · obtain ⟨v, rfl, hd⟩ := hds.one
      obtain ⟨a, xs, rfl, ha, fa, hx⟩ := hd.isL
      exact ⟨a, xs, rfl, .inl (.of ha), fun p hp => fin_own hs (rel.ext hs x1).dom x1 hp hx q1 k⟩
    · obtain ⟨v, rfl, hd⟩ := hds.one
      obtain ⟨a, xs, rfl, ha, hx⟩ := hd.isT
      exact ⟨a, xs, rfl, .inr (by rw [hK]; exact ha), fun p hp => fin_own hs (rel.ext hs x1).dom x1 hp hx q1 k⟩
    · exact q1.elim, ex⟩
def wSlF (d : T) (lo hi : Option Int) (Q : T → Prop) : Prop :=
  match d with
  | .lst xs => Q (.lst (cutT xs lo hi))
  | _ => False
theorem vf_slice (hs : SrcStays C) {lo hi : Option Expr} {wl wh : WO} (he : PE X e (cE C W wa)) (hl : PO X lo (cO C W wl)) (hu : PO X hi (cO C W wh)) :
    PE X (.Subscript e (.Slice lo hi none p2) pos) (cF C W 1 fun ρ Q E => wa ρ (fun d => wl ρ (fun l => wh ρ (fun u => wSlF d l u Q) E) E) E) :=
  (pe_slice sl_list he hl hu).imp fun σ H Q ⟨F, ρ, Qv, Ev, rel, q, k, ex⟩ => ⟨F, ρ, _, Ev, rel, q, fun v d F1 H1 x1 hd q1 =>
    ⟨F1, ρ, _, Ev, rel.ext hs x1, q1, fun l F2 H2 x2 q2 => ⟨F2, ρ, _, Ev, rel.ext hs (x1.trans x2), q2, fun u F3 H3 x3 q3 => by
      unfold wSlF at q3
      split at q3
      · obtain ⟨a, xs, rfl, ha, fa, hx⟩ := (hd.later hs (x2.trans x3).later).isL
        exact ⟨a, xs, rfl, .of ha, fun p hp => fin_own hs (rel.ext hs ((x1.trans x2).trans x3)).dom ((x1.trans x2).trans x3) hp (hx.cut l u) q3 k⟩
      · exact q3.elim, ex.ext (x1.trans x2)⟩, ex.ext x1⟩, ex⟩
theorem vf_rev (hs : SrcStays C) {k : Nat} {p1 p3 : Pos} (he : PE X e (cE C W wa)) : PE X (.Subscript e (.Slice none none (some (.UnaryOp .USub (.Constant (.int 1) k p1) p2)) p3) pos) (cF C W 1 fun ρ Q E => wa ρ (fun d => wRev d Q) E) :=
  (pe_revL he).imp fun σ H Q ⟨F, ρ, Qv, Ev, rel, q, k, ex⟩ => ⟨F, ρ, _, Ev, rel, q, fun v d F1 H1 x1 hd q1 => by
    unfold wRev at q1
    split at q1
    · obtain ⟨a, xs, rfl, ha, fa, hx⟩ := hd.isL
      exact ⟨a, xs, rfl, .of ha, fun p hp => fin_own hs (rel.ext hs x1).dom x1 hp hx.reverse q1 k⟩
    · exact q1.elim, ex⟩
theorem vf_ite (hs : SrcStays C) {c : Expr} {tc : WT} (hc : PT X c (cT C W tc)) (ha : PE X a (cF C W 1 wa)) (hb : PE X b (cF C W 1 wb)) :
    PE X (.IfExp c a b pos) (cF C W 1 fun ρ Q E => tc ρ (fun k => if k = true then wa ρ Q E else wb ρ Q E) E) :=
  (pe_ifExp hc ha hb).imp fun σ H Q ⟨F, ρ, Qv, Ev, rel, q, k, ex⟩ => ⟨F, ρ, _, Ev, rel, q, fun b F1 H1 x1 q1 => by
    have kk : ∀ a d F' H', Ext F1 H1 F' H' → OwnAt C H' F' 1 a d → (owned H' 1 a).Nodup → (∀ b ∈ owned H' 1 a, ¬ F' b ∧ H1 b = none ∧ ∃ o, H' b = some o ∧ LD o) → Qv d → Q (.ref a) H' := fun a d F2 H2 x2 ho nd lv q2 =>
      k a d F2 H2 (x1.trans x2) ho nd (fun b hb => by
        obtain ⟨h1, h2, h3⟩ := lv b hb
        refine ⟨h1, ?_, h3⟩
        cases e : H b with
        | none => rfl
        | some o => rw [x1.same b o e] at h2; cases h2) q2
    cases b with
    | true => exact ⟨F1, ρ, Qv, Ev, rel.ext hs x1, q1, kk, ex.ext x1⟩
    | false => exact ⟨F1, ρ, Qv, Ev, rel.ext hs x1, q1, kk, ex.ext x1⟩, ex⟩
end

/-! ### shared and own ones in a row -/
/-- the values, the trees, and the addresses of the own ones -/
inductive MX (C : Ctx) (H0 : Hp) (F : Addr → Prop) (H : Hp) : List Bool → List V → List T → List Addr → Prop
  | nil : MX C H0 F H [] [] [] []
  | sh {fl : List Bool} {v : V} {vs : List V} {d : T} {ds : List T} {as : List Addr} : D C H F v d → MX C H0 F H fl vs ds as → MX C H0 F H (false :: fl) (v :: vs) (d :: ds) as
  | own {fl : List Bool} {a : Addr} {vs : List V} {d : T} {ds : List T} {as : List Addr} : OwnAt C H F 1 a d → H0 a = none → a ∉ as → MX C H0 F H fl vs ds as → MX C H0 F H (true :: fl) (.ref a :: vs) (d :: ds) (a :: as)
def cM (C : Ctx) (W : WX) (fl : List Bool) (w : WA) : TA := fun σ H Q => ∃ F ρ Qv Ev, RelS C F H ρ σ ∧ w ρ Qv Ev ∧ (∀ vs ds as F' H', Ext F H F' H' → MX C H F' H' fl vs ds as → Qv ds → Q vs H') ∧ ExOut C W F H σ Ev
section
variable {C : Ctx} {W : WX} {X : Cx} {F F1 : Addr → Prop} {H0 H H1 : Hp} {fl : List Bool} {vs : List V} {ds : List T} {as : List Addr}
theorem MX.fresh (h : MX C H0 F H fl vs ds as) : ∀ a ∈ as, H0 a = none ∧ ∃ o, H a = some o ∧ LD o := by
  induction h with
  | nil => intro a ha; cases ha
  | sh _ _ ih => exact ih
  | own h1 h2 _ _ ih =>
    intro a ha
    rcases List.mem_cons.mp ha with rfl | ha
    · exact ⟨h2, h1.root.2⟩
    · exact ih a ha
theorem MX.older {H2 : Hp} (h : MX C H0 F H fl vs ds as) (s : ∀ b, H0 b = none → H2 b = none) : MX C H2 F H fl vs ds as := by
  induction h with
  | nil => exact .nil
  | sh h1 _ ih => exact .sh h1 ih
  | own h1 h2 h3 _ ih => exact .own h1 (s _ h2) h3 ih
theorem MX.ext (hs : SrcStays C) (x : Ext F H F1 H1) (h : MX C H0 F H fl vs ds as) : MX C H0 F1 H1 fl vs ds as := by
  induction h with
  | nil => exact .nil
  | sh h1 _ ih => exact .sh (h1.later hs x.later) ih
  | own h1 h2 h3 _ ih => exact .own (h1.ext hs x) h2 h3 ih
variable {e : Expr} {es : List Expr} {wa : WE} {ws : WA}
theorem vm_nil : PA X [] (cM C W [] fun _ Q _ => Q []) := pa_nil.imp fun σ H Q ⟨F, ρ, Qv, Ev, rel, q, k, ex⟩ => k [] [] [] F H .refl .nil q
theorem none_back {F F1 : Addr → Prop} {H H1 : Hp} (x1 : Ext F H F1 H1) : ∀ b, H1 b = none → H b = none := fun b h => by
  cases e : H b with
  | none => rfl
  | some o => rw [x1.same b o e] at h; cases h
theorem vm_sh (hs : SrcStays C) (ha : PE X e (cE C W wa)) (hr : PA X es (cM C W fl ws)) (h1 : starEach (e :: es) X.env = (false, eval e X.env) :: starEach es X.env) :
    PA X (e :: es) (cM C W (false :: fl) fun ρ Q E => wa ρ (fun d => ws ρ (fun ds => Q (d :: ds)) E) E) :=
  (pa_cons ha hr h1).imp fun σ H Q ⟨F, ρ, Qv, Ev, rel, q, k, ex⟩ => ⟨F, ρ, _, Ev, rel, q, fun v d F1 H1 x1 hd q1 =>
    ⟨F1, ρ, _, Ev, rel.ext hs x1, q1, fun vs ds as F2 H2 x2 hds q2 => k _ _ as F2 H2 (x1.trans x2) (.sh (hd.later hs x2.later) (hds.older (none_back x1))) q2, ex.ext x1⟩, ex⟩
theorem vm_own (hs : SrcStays C) (ha : PE X e (cF C W 1 wa)) (hr : PA X es (cM C W fl ws)) (h1 : starEach (e :: es) X.env = (false, eval e X.env) :: starEach es X.env) :
    PA X (e :: es) (cM C W (true :: fl) fun ρ Q E => wa ρ (fun d => ws ρ (fun ds => Q (d :: ds)) E) E) :=
  (pa_cons ha hr h1).imp fun σ H Q ⟨F, ρ, Qv, Ev, rel, q, k, ex⟩ => ⟨F, ρ, _, Ev, rel, q, fun a d F1 H1 x1 ho nd lv q1 =>
    ⟨F1, ρ, _, Ev, rel.ext hs x1, q1, fun vs ds as F2 H2 x2 hds q2 => k _ _ (a :: as) F2 H2 (x1.trans x2) (.own (ho.ext hs x2) (lv a (List.mem_singleton.mpr rfl)).2.1 (fun z => by
      obtain ⟨h1, _⟩ := hds.fresh a z
      obtain ⟨_, _, o, h3, _⟩ := lv a (List.mem_singleton.mpr rfl)
      rw [h1] at h3; cases h3) (hds.older (none_back x1))) q2, ex.ext x1⟩, ex⟩
/-- into the slots -/
def setM : List Nat → List Bool → List T → Rho → Rho
  | i :: is, b :: fl, d :: ds, ρ => setM is fl ds (ρ.set i (if b then .own 1 d else .sh d))
  | _, _, _, ρ => ρ
def setV : List Nat → List V → L2.St → L2.St
  | i :: is, v :: vs, σ => setV is vs (σ.set i (some v))
  | _, _, σ => σ
theorem St.setM (hs : SrcStays C) {P F0 : Addr → Prop} {Hb : Hp} (h : MX C H0 F H fl vs ds as) : ∀ {is : List Nat} {ρ : Rho} {σ : L2.St}, is.length = fl.length → St C P F0 Hb F H ρ σ → (∀ j b, b ∈ ownI H ρ σ j → b ∉ as) → (∀ b ∈ as, Hb b = none ∨ P b) →
    St C P F0 Hb F H (setM is fl ds ρ) (setV is vs σ) := by
  induction h with
  | nil => intro is ρ σ hl s _ _; cases is with
    | nil => exact s
    | cons _ _ => cases hl
  | @sh fl v vs d ds as h1 _ ih =>
    intro is ρ σ hl s ap nb
    cases is with
    | nil => cases hl
    | cons i is =>
      have s2 := s.setSh (i := i) h1
      refine ih (by simpa using hl) s2 (fun j b hb => ?_) nb
      refine ap j b ?_
      unfold ownI at hb ⊢
      by_cases hj : i = j
      · subst hj
        by_cases hlt : i < ρ.length
        · rw [if_neg Bool.false_ne_true, getD_set_self hlt] at hb; cases hb
        · rw [if_neg Bool.false_ne_true, getD_set_out (Nat.le_of_not_lt hlt), getD_set_out (by rw [← s.rel.len]; exact Nat.le_of_not_lt hlt)] at hb
          exact hb
      · rw [if_neg Bool.false_ne_true, getD_set_ne hj, getD_set_ne hj] at hb; exact hb
  | @own fl a vs d ds as h1 h2 h3 _ ih =>
    intro is ρ σ hl s ap nb
    cases is with
    | nil => cases hl
    | cons i is =>
      have s2 : St C P F0 Hb F H (ρ.set i (.own 1 d)) (σ.set i (some (.ref a))) := s.setOwn h1 (by show [a].Nodup; simp) (fun b hb => by
        have e : b = a := by
          have : b ∈ [a] := hb
          simpa using this
        subst e
        exact ⟨h1.root.1, h1.root.2, nb b List.mem_cons_self⟩) fun j b _ hb hb2 => by
          have e : b = a := by
            have : b ∈ [a] := hb2
            simpa using this
          subst e
          exact ap j b hb List.mem_cons_self
      refine ih (by simpa using hl) s2 (fun j b hb => ?_) fun b hb => nb b (List.mem_cons_of_mem _ hb)
      unfold ownI at hb
      rw [if_pos rfl] at hb
      by_cases hj : i = j
      · subst hj
        by_cases hlt : i < ρ.length
        · rw [getD_set_self hlt, getD_set_self (by rw [← s.rel.len]; exact hlt)] at hb
          have e : b = a := by
            have : b ∈ [a] := hb
            simpa using this
          subst e
          exact h3
        · rw [getD_set_out (Nat.le_of_not_lt hlt), getD_set_out (by rw [← s.rel.len]; exact Nat.le_of_not_lt hlt)] at hb
          exact fun z => ap i b hb (List.mem_cons_of_mem _ z)
      · rw [getD_set_ne hj, getD_set_ne hj] at hb
        exact fun z => ap j b hb (List.mem_cons_of_mem _ z)
theorem MX.len (h : MX C H0 F H fl vs ds as) : vs.length = fl.length ∧ ds.length = fl.length := by
  induction h with
  | nil => exact ⟨rfl, rfl⟩
  | sh _ _ ih => exact ⟨by rw [List.length_cons, List.length_cons, ih.1], by rw [List.length_cons, List.length_cons, ih.2]⟩
  | own _ _ _ _ ih => exact ⟨by rw [List.length_cons, List.length_cons, ih.1], by rw [List.length_cons, List.length_cons, ih.2]⟩
/-- the word of a, b, .. = x, y, .. -/
def wPar (l : List Nat) (is : List Nat) (fl : List Bool) (ws : WA) : WS := fun ρ D => is.length = fl.length ∧ ws (frz ρ l) (fun ds => D.nx (setM is fl ds (frz ρ l))) (D.ex (frz ρ l))
theorem par_c (hs : SrcStays C) {l is : List Nat} {D : Ends} {σ : L2.St} {H : Hp} {Q : List V → Hp → Prop} (h : cS C W (wPar l is fl ws) D σ H) (hQ : ∀ vs H', vs.length = is.length → D.nx (setV is vs σ) H' → (∀ p, H' p = none → D.nx (setV is vs σ) (upd H' p (.tup vs))) → Q vs H') : cM C W fl ws σ H Q := by
  obtain ⟨P, F0, Hb, F, ρ, Dv, s, ⟨hl, q⟩, o⟩ := h
  obtain ⟨F', s'⟩ := s.frz hs l
  refine ⟨F', _, _, _, s'.rel, q, fun vs ds as F2 H2 x hm q2 => ?_, o.exo hs s'⟩
  have fin : St C P F0 Hb F2 H2 (L3.setM is fl ds (L3.frz ρ l)) (setV is vs σ) := by
    refine St.setM hs hm hl (s'.ext hs x) (fun j b hb hb2 => ?_) fun b hb => ?_
    · rw [ownI_exts s'.rel x] at hb
      obtain ⟨_, ob, e, _⟩ := s'.rel.live j b hb
      rw [(hm.fresh b hb2).1] at e; cases e
    · cases e : Hb b with
      | none => exact .inl rfl
      | some ob =>
        refine .inr (Classical.byContradiction fun n => ?_)
        have := s'.base.same b ob e n
        rw [(hm.fresh b hb).1] at this; cases this
  exact hQ vs H2 (by rw [hm.len.1, hl]) (o.nx _ _ F2 H2 fin q2) fun p hp => o.nx _ _ F2 _ (fin.ext hs (.new_tup hp)) q2
end

/-! ### writes -/
section
variable {C : Ctx} {W : WX} {X : Cx} {P F0 F : Addr → Prop} {H0 H : Hp} {ρ : Rho} {σ : L2.St}
theorem St.write (hs : SrcStays C) (s : St C P F0 H0 F H ρ σ) {i : Nat} {d d' : T} {a : Addr} {o' : HO} (hi : ρ[i]? = some (.own 1 d)) (ea : σ.getD i none = some (.ref a)) (lo' : LD o') (h' : OwnAt C (upd H a o') F 1 a d') :
    St C P F0 H0 F (upd H a o') (ρ.set i (.own 1 d')) σ := by
  have hlt : i < ρ.length := (List.getElem?_eq_some_iff.mp hi).1
  have hlt' : i < σ.length := by rw [← s.rel.len]; exact hlt
  have oi : ownI H ρ σ i = [a] := ownI_own hi ea
  have es : σ.set i (some (.ref a)) = σ := by
    have e2 : σ[i]? = some (some (.ref a)) := by
      rw [List.getD_eq_getElem?_getD, List.getElem?_eq_getElem hlt'] at ea
      rw [List.getElem?_eq_getElem hlt']
      exact congrArg some ea
    refine List.ext_getElem? fun j => ?_
    by_cases hj : i = j
    · subst hj; rw [List.getElem?_set_self hlt', e2]
    · rw [List.getElem?_set_ne hj]
  obtain ⟨nf, o, ho, lo⟩ := s.rel.live i a (by rw [oi]; exact List.mem_singleton.mpr rfl)
  have f1 := s.rel.forget i (some (.ref a))
  rw [es] at f1
  have own' : ∀ j b, b ∈ ownI H (ρ.set i .un) σ j → j ≠ i ∧ b ∈ ownI H ρ σ j := fun j b hb => by
    by_cases hj : j = i
    · subst hj
      unfold ownI at hb
      rw [getD_set_self hlt] at hb
      cases hb
    · refine ⟨hj, ?_⟩
      unfold ownI at hb ⊢
      rw [getD_set_ne (Ne.symm hj)] at hb
      exact hb
  have nea : ∀ j b, b ∈ ownI H (ρ.set i .un) σ j → b ≠ a := fun j b hb z => by
    obtain ⟨hj, hb'⟩ := own' j b hb
    exact hj (s.rel.apart j i b hb' (by rw [oi, z]; exact List.mem_singleton.mpr rfl))
  have f2 : RelS C F (upd H a o') (ρ.set i .un) σ := f1.keep hs (Later.write nf ho lo) (fun j b hb => ⟨upd_ne (nea j b hb), (f1.live j b hb).1⟩) fun b z => by
    obtain ⟨ob, hb⟩ := f1.dom b z
    exact ⟨ob, by rw [upd_ne fun e => nf (by rw [← e]; exact z)]; exact hb⟩
  have mem1 : ∀ b, b ∈ owned (upd H a o') 1 a → b = a := fun b hb => by
    have : b ∈ [a] := hb
    simpa using this
  have ma : H0 a = none ∨ P a := s.mine i a (by rw [oi]; exact List.mem_singleton.mpr rfl)
  have e3 : ∀ j, ownI (upd H a o') (ρ.set i .un) σ j = ownI H (ρ.set i .un) σ j := fun j => ownI_keep fun b hb => upd_ne (nea j b hb)
  have f3 : St C P F0 H0 F (upd H a o') (ρ.set i .un) σ := ⟨f2, ⟨fun b ob e n => by
      have hb : b ≠ a := fun z => by
        subst z
        rcases ma with z | z
        · rw [z] at e; cases e
        · exact n z
      rw [upd_ne hb]; exact s.base.same b ob e n, s.base.fz, s.base.new⟩, fun j b hb => by
    rw [e3] at hb
    exact s.mine j b (own' j b hb).2⟩
  have f4 := f3.setOwn (i := i) (k := 1) h' (by show [a].Nodup; simp) (fun b hb => by
    rw [mem1 b hb]
    exact ⟨nf, ⟨o', upd_same, lo'⟩, ma⟩) fun j b _ hb hb2 => by
      rw [e3] at hb
      exact nea j b hb (mem1 b hb2)
  rw [es, List.set_set] at f4
  exact f4
def ownL (ρ : Rho) (i : Nat) (k : List T → Prop) : Prop :=
  match ρ[i]? with
  | some (.own 1 (.lst ds)) => k ds
  | _ => False
theorem ownL_of {i : Nat} {k : List T → Prop} (h : ownL ρ i k) : ∃ ds, ρ[i]? = some (.own 1 (.lst ds)) ∧ k ds := by
  unfold ownL at h
  split at h
  · exact ⟨_, by assumption, h⟩
  · exact h.elim
/-- an own list of the frame, as it lies -/
theorem RelS.ownl (r : RelS C F H ρ σ) {i : Nat} {ds : List T} (hi : ρ[i]? = some (.own 1 (.lst ds))) : ∃ a xs, σ[i]? = some (some (.ref a)) ∧ σ.getD i none = some (.ref a) ∧ H a = some (.lst xs) ∧ ¬ F a ∧ Ds C H F xs ds := by
  obtain ⟨a, ea, ho⟩ := r.slot i _ hi
  have hlt : i < σ.length := by rw [← r.len]; exact (List.getElem?_eq_some_iff.mp hi).1
  have e2 : σ[i]? = some (some (.ref a)) := by
    have ea' := ea
    rw [List.getD_eq_getElem?_getD, List.getElem?_eq_getElem hlt] at ea'
    rw [List.getElem?_eq_getElem hlt]
    exact congrArg some ea'
  rcases ho.2 with ⟨xs, ds', e1, h1, h2⟩ | ⟨_, _, e1, _⟩ | ⟨_, _, e1, _⟩
  · cases e1
    exact ⟨a, xs, e2, ea, h1, ho.1, h2⟩
  · cases e1
  · cases e1
/-- name.append(e) -/
theorem vs_app (hs : SrcStays C) (hK : X.K = C.K) {o e : Expr} {we : WE} {i : Nat} {apos cpos pos : Pos} (l : List Nat) (hv : PE X o (tVar i)) (he : PE X e (cE C W we))
    (hbase : attributeBase o "append" X.env (eval o X.env) = eval o X.env) (hline : (apos.endLine == cpos.line) = true) (hst : starEach [e] X.env = [(false, eval e X.env)])
    (hfew : ((backTo cpos (starEach [e] X.env)).all (fun x => !x.1) && (backToKw cpos (keywordEach [] X.env)).all (fun x => x.1.isSome) && decide ([e].length + ([] : List Keyword).length + (if ([] : List Keyword).isEmpty then 0 else 1) < 30)) = true) :
    PS X (.Expr (.Call (.Attribute o "append" apos) [e] [] cpos) pos) (cS C W fun ρ D => ownL (frz ρ l) i fun ds => we (frz ρ l) (fun d => ds.length < sizeLine ∧ D.nx ((frz ρ l).set i (.own 1 (.lst (ds ++ [d]))))) (D.ex (frz ρ l))) :=
  (ps_expr (pe_bm PySem.F.plainAttrs_list PySem.F.slot_list_append PySem.F.type_list_append mt_append hv (pa_cons he pa_nil hst) hbase hfew hline hst rfl) rfl).imp fun D σ H ⟨P, F0, H0, F, ρ, Dv, s, q, o⟩ => by
    obtain ⟨F', s'⟩ := s.frz hs l
    obtain ⟨ds, hi, q⟩ := ownL_of q
    obtain ⟨a, xs, e1, e2, ha, nf, hx⟩ := s'.rel.ownl hi
    refine ⟨.ref a, e1, .inl ⟨rfl, xs, .of ha⟩, F', _, _, _, s'.rel, q, fun v d F2 H2 x hd q2 => ?_, o.exo hs s'⟩
    have s2 := s'.ext hs x
    obtain ⟨a', xs', e1', e2', ha', nf', hx'⟩ := s2.rel.ownl hi
    have : a' = a := by
      rw [e1] at e1'; cases e1'; rfl
    subst this
    refine ⟨a', xs', v, rfl, rfl, ha', by rw [hx'.length]; exact q2.1, o.nx _ σ F2 _ (s2.write hs hi e2' (o' := .lst (xs' ++ [v])) trivial ⟨nf', .inl ⟨_, _, rfl, upd_same, ?_⟩⟩) q2.2⟩
    exact (hx'.append (.one_of hd)).later hs (Later.write nf' ha' trivial)
end
end L3

/-! L3p: statements: the syntax, its words, the check, and that it is enough. -/
namespace L3
open PySem PySem.Spec PyProof.Rows L2

inductive Ms where
  | nil
  | sh (e : E) (ms : Ms)
  | own (e : E) (ms : Ms)
def Ms.fl : Ms → List Bool
  | .nil => []
  | .sh _ ms => false :: ms.fl
  | .own _ ms => true :: ms.fl
mutual
inductive S where
  | never
  | pass
  | brk
  | cont
  | retN
  | ret (l : List Nat) (e : E)
  | retOwn (i : Nat)
  | retF (l : List Nat) (e : E)
  | set (l : List Nat) (i : Nat) (e : E)
  | setF (l : List Nat) (i : Nat) (e : E)
  | setB (l : List Nat) (i : Nat) (e : E)
  | asg (l : List Nat) (t : Tg) (e : E)
  | par (l : List Nat) (is : List Nat) (ms : Ms)
  | expr (l : List Nat) (e : E)
  | app (l : List Nat) (i : Nat) (e : E)
  | ite (l : List Nat) (c : E) (a b : Ss)
  | for (l : List Nat) (t : Tg) (it : I) (b : Ss)
  | whl (l : List Nat) (c : E) (b : Ss)
inductive Ss where
  | nil
  | cons (s : S) (ss : Ss)
end
def wCallF (G : Gt) (f : Str) : List T → (T → Prop) → (Ex → Prop) → Prop := fun ds Q Ev =>
  match G f with
  | some i => i.fr = 1 ∧ ds.length = i.n ∧ i.sp ds Q Ev
  | none => False
/-- a new thing's word -/
def wF (G : Gt) : E → WE
  | .lst es => fun ρ Q Ev => wEs G es ρ (fun ds => ds.length ≤ sizeLine ∧ Q (.lst ds)) Ev
  | .bin .add a b => fun ρ Q Ev => (w G a).1 ρ (fun d => (w G b).1 ρ (fun d' => wCatF d d' Q) Ev) Ev
  | .bin .mul a b => fun ρ Q Ev => (w G a).1 ρ (fun d => (w G b).1 ρ (fun d' => wRepF d d' Q) Ev) Ev
  | .bf .list es => fun ρ Q Ev => wEs G es ρ (fun ds => wListF ds Q) Ev
  | .sl a lo hi => fun ρ Q Ev => (w G a).1 ρ (fun d => wP G lo ρ (fun l => wP G hi ρ (fun u => wSlF d l u Q) Ev) Ev) Ev
  | .rev a => fun ρ Q Ev => (w G a).1 ρ (fun d => wRev d Q) Ev
  | .ite c a b => fun ρ Q Ev => (w G c).2 ρ (fun k => if k = true then wF G a ρ Q Ev else wF G b ρ Q Ev) Ev
  | .call f es => fun ρ Q Ev => wEs G es ρ (fun ds => wCallF G f ds Q Ev) Ev
  | .lc elt t it ifs own => wLcE (wI G it) t.w (wIfs G ifs) (w G elt).1 (own.map (·.2))
  | _ => fun _ _ _ => False
def wMs (G : Gt) : Ms → WA
  | .nil => fun _ Q _ => Q []
  | .sh e ms => fun ρ Q Ev => (w G e).1 ρ (fun d => wMs G ms ρ (fun ds => Q (d :: ds)) Ev) Ev
  | .own e ms => fun ρ Q Ev => wF G e ρ (fun d => wMs G ms ρ (fun ds => Q (d :: ds)) Ev) Ev
mutual
def wS (G : Gt) : S → WS
  | .never => fun _ _ => False
  | .pass => fun ρ D => D.nx ρ
  | .brk => fun ρ D => D.bk ρ
  | .cont => fun ρ D => D.ct ρ
  | .retN => fun _ D => D.rt 0 .non
  | .ret l e => fun ρ D => (w G e).1 (frz ρ l) (D.rt 0) (D.ex (frz ρ l))
  | .retOwn i => fun ρ D => match ρ[i]? with
    | some (.own (k + 1) d) => D.rt (k + 1) d
    | _ => False
  | .retF l e => fun ρ D => wF G e (frz ρ l) (D.rt 1) (D.ex (frz ρ l))
  | .set l i e => fun ρ D => (w G e).1 (frz ρ l) (fun d => D.nx ((frz ρ l).set i (.sh d))) (D.ex (frz ρ l))
  | .setF l i e => fun ρ D => wF G e (frz ρ l) (fun d => D.nx ((frz ρ l).set i (.own 1 d))) (D.ex (frz ρ l))
  | .setB l i e => fun ρ D => (w G e).1 (frz ρ l) (fun d => flatT d = true ∧ D.nx (ρ.set i (.sh d))) (D.ex (frz ρ l))
  | .asg l t e => fun ρ D => (w G e).1 (frz ρ l) (fun d => t.w d (frz ρ l) D.nx) (D.ex (frz ρ l))
  | .par l is ms => wPar l is ms.fl (wMs G ms)
  | .expr l e => fun ρ D => (w G e).1 (frz ρ l) (fun _ => D.nx ρ) (D.ex (frz ρ l))
  | .app l i e => fun ρ D => ownL (frz ρ l) i fun ds => (w G e).1 (frz ρ l) (fun d => ds.length < sizeLine ∧ D.nx ((frz ρ l).set i (.own 1 (.lst (ds ++ [d]))))) (D.ex (frz ρ l))
  | .ite l c a b => fun ρ D => (w G c).2 (frz ρ l) (fun k => if k = true then wSs G a ρ D else wSs G b ρ D) (D.ex (frz ρ l))
  | .for l t it b => fun ρ D => wI G it (frz ρ l) (fun ds => wFor t.w (wSs G b) D ds (frz ρ l)) (D.ex (frz ρ l))
  | .whl l c b => fun ρ D => ∃ n, wWhile l (w G c).2 (wSs G b) D n ρ
def wSs (G : Gt) : Ss → WS
  | .nil => fun ρ D => D.nx ρ
  | .cons s ss => fun ρ D => wS G s ρ { D with nx := fun ρ' => wSs G ss ρ' D }
end

/-! ### the check -/
/-- whether the last store is made within a comprehension's own block -/
def swB (sc : Scope) (x : Expr) (y : Str) (py : Pos) : Bool :=
  match x with
  | .ListComp _ _ s pos => (sc.names.lookup y == some .local) && py.line == pos.line && !(s.names.any fun (n, k) => n == y && (k == .local || k == .cell))
  | .SetComp _ _ s pos => (sc.names.lookup y == some .local) && py.line == pos.line && !(s.names.any fun (n, k) => n == y && (k == .local || k == .cell))
  | .DictComp _ _ _ s pos => (sc.names.lookup y == some .local) && py.line == pos.line && !(s.names.any fun (n, k) => n == y && (k == .local || k == .cell))
  | _ => false
theorem sw_eq {env : Env} {x : Expr} {y : Str} {py : Pos} {l : Nat} (hk : env.scope.kind = .function) : swapsWith x (some (.Name y py)) l env = Pure.pure (swB env.scope x y py) := by
  have hb : env.blockKind = .function := by unfold Env.blockKind; rw [hk]; rfl
  have e : (env.blockKind == ScopeKind.function) = true := by rw [hb]; rfl
  cases x <;> first
    | rfl
    | (show (Pure.pure (env.blockKind == .function && env.kindOf y == some .local && py.line == _ && !_) : Sem Bool) = _
       rw [e, Bool.true_and]
       rfl)
def isComp : Expr → Bool
  | .ListComp _ _ _ _ => true
  | .SetComp _ _ _ _ => true
  | .DictComp _ _ _ _ _ => true
  | _ => false
theorem sw_none {env : Env} {x : Expr} {l : Nat} {t : Option Expr} (h : isComp x = false) : swapsWith x t l env = Pure.pure false := by
  cases x <;> first | rfl | cases h
theorem sw_tup {env : Env} {x : Expr} {l : Nat} {ts : List Expr} {k : Nat} {p : Pos} : swapsWith x (some (.Tuple ts k p)) l env = Pure.pure false := by
  cases x <;> rfl
/-- the names of stores that are made from the right: some (some ..): these; some none: in order; none: not served -/
def swSt (sc : Scope) (ts vs : List Expr) : Option (Option (List Str)) :=
  if !(ts.length == 2 || ts.length == 3) || vs.length != ts.length then some none
  else if vs.any fun | .Starred .. => true | _ => false then some none
  else
    let line := (ts.head?.map (·.pos.line)).getD 0
    let names := ts.filterMap fun
      | .Name id pos => if sc.names.lookup id == some .local && pos.line == line then some id else none
      | _ => none
    if names.length != ts.length || names.eraseDups.length != names.length then some none
    else if vs.all (foldedForSure 8) then some none
    else if vs.all (constantsAlone 8) then none
    else some (some names)
theorem swSt_eq {env : Env} {ts vs : List Expr} {k k2 : Nat} {p p2 : Pos} {r : Option (List Str)} (hk : env.scope.kind = .function) (h : swSt env.scope ts vs = some r) : swappedStores [.Tuple ts k p] (.Tuple vs k2 p2) env = Pure.pure r := by
  have hb : env.blockKind = .function := by unfold Env.blockKind; rw [hk]; rfl
  have e : (env.blockKind != ScopeKind.function) = false := by rw [hb]; rfl
  unfold swappedStores
  show (if (!(ts.length == 2 || ts.length == 3) || vs.length != ts.length || env.blockKind != .function) = true then _ else _ : Sem (Option (List Str))) = _
  rw [e, Bool.or_false]
  unfold swSt at h
  split at h
  · rename_i c1
    cases h
    exact (if_pos c1).trans rfl
  · rename_i c1
    refine (if_neg c1).trans ?_
    split at h
    · rename_i c2
      cases h
      exact (if_pos c2).trans rfl
    · rename_i c2
      refine (if_neg c2).trans ?_
      dsimp only at h ⊢
      split at h
      · rename_i c3
        cases h
        exact (if_pos c3).trans rfl
      · rename_i c3
        refine (if_neg c3).trans ?_
        split at h
        · rename_i c4
          cases h
          exact (if_pos c4).trans rfl
        · rename_i c4
          refine (if_neg c4).trans ?_
          split at h
          · cases h
          · rename_i c5
            cases h
            exact (if_neg c5).trans rfl
end L3

/-! L3q: the check is enough: statements. -/
namespace L3
open PySem PySem.Spec PyProof.Rows L2

/-- a new thing -/
def chkF (c : Sc) : E → Bool
  | .call f _ => decide (f ∈ c.frs)
  | .ite _ a b => chkF c a && chkF c b
  | _ => true
def Ms.chk (c : Sc) : Ms → List Expr → Bool
  | .nil, xs => match xs with
    | [] => true
    | _ => false
  | .sh e ms, xs => match xs with
    | x :: xs => L3.chk c e x && ms.chk c xs
    | _ => false
  | .own e ms, xs => match xs with
    | x :: xs => L3.chk c e x && chkF c e && ms.chk c xs
    | _ => false
def isLcE : E → Bool
  | .lc _ _ _ _ _ => true
  | _ => false
def nameOf : Expr → Str
  | .Name y _ => y
  | _ => ""
def localB (c : Sc) (y : Str) : Bool := c.sc.names.lookup y == some .local
/-- how the targets' stores go: in order, or from the right -/
def chkPar (c : Sc) (is : List Nat) (ts vs : List Expr) : Bool :=
  match swSt c.sc ts vs with
  | some none => decide (is.length ≤ 1000)
  | some (some ns) => match is, ts with
    | [i, j], [a, b] => decide (ns = [nameOf a, nameOf b]) && localB c (nameOf a) && localB c (nameOf b) && decide (i ≠ j) && decide (vs.length = 2)
    | [i, j, k], [a, b, d] => decide (ns = [nameOf a, nameOf b, nameOf d]) && localB c (nameOf a) && localB c (nameOf b) && localB c (nameOf d) && decide (i ≠ j) && decide (i ≠ k) && decide (j ≠ k) && decide (vs.length = 3)
    | _, _ => false
  | none => false
mutual
def chkS (c : Sc) : S → Stmt → Bool
  | .never, st => true
  | .pass, st => match st with
    | .Pass _ => true
    | _ => false
  | .brk, st => match st with
    | .Break _ => true
    | _ => false
  | .cont, st => match st with
    | .Continue _ => true
    | _ => false
  | .retN, st => match st with
    | .Return none _ => true
    | _ => false
  | .ret l e, st => match st with
    | .Return (some v) _ => chk c e v
    | _ => false
  | .retOwn i, st => match st with
    | .Return (some v) _ => chk c (.var i) v
    | _ => false
  | .retF l e, st => match st with
    | .Return (some v) _ => chk c e v && chkF c e
    | _ => false
  | .set l i e, st => match st with
    | .Assign [.Name y py] v _ => chkName c i y && chk c e v && (!(swB c.sc v y py) || isLcE e)
    | _ => false
  | .setF l i e, st => match st with
    | .Assign [.Name y py] v _ => chkName c i y && chk c e v && chkF c e && (!(swB c.sc v y py) || isLcE e)
    | _ => false
  | .setB l i e, st => match st with
    | .Assign [.Name y py] v _ => chkName c i y && chk c e v && !(swB c.sc v y py)
    | _ => false
  | .asg l t e, st => match st with
    | .Assign [.Tuple ts k p] v _ => t.chk c (.Tuple ts k p) && chk c e v && !(isTupX v)
    | _ => false
  | .par l is ms, st => match st with
    | .Assign [.Tuple ts _ _] (.Tuple vs _ _) _ => chkNames c is ts && ms.chk c vs && chkPar c is ts vs
    | _ => false
  | .expr l e, st => match st with
    | .Expr v _ => chk c e v && !(isComp v)
    | _ => false
  | .app l i e, st => match st with
    | .Expr (.Call (.Attribute (.Name y p) m apos) [v] [] cpos) _ => decide (m = "append") && chk c (.var i) (.Name y p) && chk c e v && (apos.endLine == cpos.line)
    | _ => false
  | .ite l t a b, st => match st with
    | .If x y z _ => chk c t x && chkSs c a y && chkSs c b z
    | _ => false
  | .for l t it b, st => match st with
    | .For tg iter body [] _ => t.chk c tg && chkI c it iter && (!it.needT || isTupX tg) && noSet iter && chkSs c b body
    | _ => false
  | .whl l t b, st => match st with
    | .While x body [] _ => chk c t x && chkSs c b body
    | _ => false
def chkSs (c : Sc) : Ss → List Stmt → Bool
  | .nil, xs => match xs with
    | [] => true
    | _ => false
  | .cons s ss, xs => match xs with
    | x :: xs => chkS c s x && chkSs c ss xs
    | _ => false
end

structure GoodS (C : Ctx) (G : Gt) (W : WX) (c : Sc) (X : Cx) : Prop extends Good C G W c X where
  po : PassesOwn (model X.prog X.w) X.A X.env X.xe
  kind : c.sc.kind = .function

section
variable {C : Ctx} {G : Gt} {W : WX} {c : Sc} {X : Cx}
theorem lc_parts (g : Good C G W c X) {elt : E} {t : Tg} {it : I} {ifs : Es} {own : List (Str × Nat)} {x : Expr} (h : chk c (.lc elt t it ifs own) x = true) :
    ∃ e tg iter fs scope pos, x = .ListComp e [⟨tg, iter, fs, 0⟩] scope pos ∧ PI X tg iter (cI C W (wI G it)) ∧ BlkOk X.N X.env.scope scope own ∧
      (∀ (s : Shared) (H : Hp) (C' : Addr) (cl : List (Str × Addr)) (fp : List Addr), PG (X.blk s H scope (compEnvC scope cl C' X.env) fp) tg (cG C (own.map (·.2)) t.w)) ∧
      (∀ (s : Shared) (H : Hp) (C' : Addr) (cl : List (Str × Addr)) (fp : List Addr), PTs (X.blk s H scope (compEnvC scope cl C' X.env) fp) fs (cT C WF (wIfs G ifs))) ∧
      (∀ (s : Shared) (H : Hp) (C' : Addr) (cl : List (Str × Addr)) (fp : List Addr), PE (X.blk s H scope (compEnvC scope cl C' X.env) fp) e (cE C WF (w G elt).1)) ∧ ∀ x, foldedSetIterable iter X.env x = Pure.pure x := by
  unfold chk at h
  split at h
  · rename_i e tg iter fs a scope pos
    simp only [Bool.and_eq_true, decide_eq_true_eq] at h
    obtain ⟨⟨⟨⟨⟨⟨⟨⟨⟨rfl, h2⟩, hT⟩, h3⟩, h4⟩, h5⟩, h6⟩, h7⟩, h8⟩, h9⟩ := h
    have h5' : ∀ i ∈ t.slots, i ∈ own.map (·.2) := fun i hi => of_decide_eq_true (List.all_eq_true.mp h5 i hi)
    exact ⟨e, tg, iter, fs, scope, pos, rfl, sndI it g h2 (needT_of hT), by rw [g.hN, g.hsc]; exact blkOk_by h4, fun s H C' cl fp => (g.blk s H scope C' cl fp).tg h6 h5', fun s H C' cl fp => sndIfs ifs (g.blk s H scope C' cl fp) h7 h8, fun s H C' cl fp => (snd elt (g.blk s H scope C' cl fp) h9).1, folded_set h3⟩
  · cases h
theorem bot {x : Expr} {k : Nat} : PE X x (cF C W k fun _ _ _ => False) := ⟨fun pins s σ H Q I ⟨_, _, _, _, _, q, _⟩ => q.elim⟩
theorem sndF : ∀ (e : E) {c : Sc} (g : Good C G W c X) {x : Expr}, chk c e x = true → chkF c e = true → PE X x (cF C W 1 (wF G e))
  | .never, c, g, x, h, hf => bot
  | .var _, c, g, x, h, hf => bot
  | .int _, c, g, x, h, hf => bot
  | .bl _, c, g, x, h, hf => bot
  | .non, c, g, x, h, hf => bot
  | .str _, c, g, x, h, hf => bot
  | .neg _, c, g, x, h, hf => bot
  | .not _, c, g, x, h, hf => bot
  | .cmp _ _ _, c, g, x, h, hf => bot
  | .and _, c, g, x, h, hf => bot
  | .or _, c, g, x, h, hf => bot
  | .tup _, c, g, x, h, hf => bot
  | .ix _ _, c, g, x, h, hf => bot
  | .isi _ _, c, g, x, h, hf => bot
  | .gcd _ _, c, g, x, h, hf => bot
  | .bf .repr _, c, g, x, h, hf => bot
  | .bf .str _, c, g, x, h, hf => bot
  | .bin .sub _ _, c, g, x, h, hf => bot
  | .bin .fdv _ _, c, g, x, h, hf => bot
  | .bin .mod _ _, c, g, x, h, hf => bot
  | .bin .pow _ _, c, g, x, h, hf => bot
  | .bf .len _, c, g, x, h, hf => bot
  | .bf .abs _, c, g, x, h, hf => bot
  | .bf .int _, c, g, x, h, hf => bot
  | .bf .tuple _, c, g, x, h, hf => bot
  | .bf .all _, c, g, x, h, hf => bot
  | .bf .any _, c, g, x, h, hf => bot
  | .bf .sum _, c, g, x, h, hf => bot
  | .bf .max2 _, c, g, x, h, hf => bot
  | .bf .min2 _, c, g, x, h, hf => bot
  | .lst es, c, g, x, h, hf => by
    unfold chk at h
    split at h
    · exact vf_lst g.src (sndEs es g h)
    · cases h
  | .bin .add a b, c, g, x, h, hf => by
    unfold chk at h
    split at h
    · simp only [Bool.and_eq_true, decide_eq_true_eq] at h
      obtain ⟨⟨rfl, h2⟩, h3⟩ := h
      exact vf_add g.src (snd a g h2).1 (snd b g h3).1
    · cases h
  | .bin .mul a b, c, g, x, h, hf => by
    unfold chk at h
    split at h
    · simp only [Bool.and_eq_true, decide_eq_true_eq] at h
      obtain ⟨⟨rfl, h2⟩, h3⟩ := h
      exact vf_rep g.src (snd a g h2).1 (snd b g h3).1
    · cases h
  | .bf .list es, c, g, x, h, hf => by
    unfold chk at h
    split at h
    · rename_i f p xs pos
      simp only [Bool.and_eq_true, decide_eq_true_eq, Bool.not_eq_true'] at h
      obtain ⟨⟨⟨⟨rfl, h2⟩, h3⟩, h4⟩, h5⟩ := h
      cases xs with
      | nil => cases h5
      | cons y ys =>
        have st := chkEs_stars h4
        unfold noStars at st
        rw [Bool.and_eq_true] at st
        exact vf_list g.src g.hK (g.glob h2) (g.bn _ h3) (sndEs es g h4) (star_plain st.1) (any_noStars st.2)
    · cases h
  | .sl a lo hi, c, g, x, h, hf => by
    unfold chk at h
    split at h
    · simp only [Bool.and_eq_true] at h
      exact vf_slice g.src (snd a g h.1.1).1 (sndP lo g h.1.2) (sndP hi g h.2)
    · cases h
  | .rev a, c, g, x, h, hf => by
    unfold chk at h
    split at h
    · exact vf_rev g.src (snd a g h).1
    · cases h
  | .ite t a b, c, g, x, h, hf => by
    unfold chk at h
    split at h
    · simp only [Bool.and_eq_true] at h
      unfold chkF at hf
      rw [Bool.and_eq_true] at hf
      exact vf_ite g.src (snd t g h.1.1).2 (sndF a g h.1.2 hf.1) (sndF b g h.2 hf.2)
    · cases h
  | .call f es, c, g, x, h, hf => by
    unfold chk at h
    split at h
    · rename_i f' p xs pos
      simp only [Bool.and_eq_true, decide_eq_true_eq, Bool.not_eq_true'] at h
      obtain ⟨⟨⟨⟨rfl, h2⟩, h3⟩, h4⟩, h5⟩ := h
      cases xs with
      | nil => cases h5
      | cons y ys =>
        have st := chkEs_stars h4
        unfold noStars at st
        rw [Bool.and_eq_true] at st
        obtain ⟨i, a, fd, ps, kk, gi, hm, hk, hb, Fn, hr, hd⟩ := g.fns _ h3
        obtain ⟨i', gi', q⟩ := g.frs _ (by unfold chkF at hf; exact of_decide_eq_true hf)
        rw [gi] at gi'
        cases gi'
        rw [q] at Fn
        refine (vf_call g.src (m := 0) Fn hr g.gd (g.glob h2) hm hk hb g.tk (sndEs es g h4) hd (star_plain st.1) (any_noStars st.2)).imp fun σ H Q ⟨F, ρ, Qv, Ev, rel, qq, k, ex⟩ => ⟨F, ρ, Qv, Ev, rel, ?_, k, ex⟩
        have e : (fun ds => wCallF G f' ds Qv Ev) = fun ds => ds.length = i.n ∧ i.sp ds Qv Ev := by
          funext ds
          unfold wCallF
          rw [gi]
          simp [q]
        have qq : wEs G es ρ (fun ds => wCallF G f' ds Qv Ev) Ev := qq
        rw [e] at qq
        exact qq
    · cases h
  | .lc elt t it ifs own, c, g, x, h, hf => by
    obtain ⟨e, tg, iter, fs, scope, pos, rfl, hi, ok, hg, ht, he, hf⟩ := lc_parts g h
    exact vf_lc g.calm (by rw [g.hN]; exact g.nd) hi ok hg ht he hf g.src
theorem sndMs : ∀ (ms : Ms) {c : Sc} (g : Good C G W c X) {xs : List Expr}, ms.chk c xs = true → PA X xs (cM C W ms.fl (wMs G ms))
  | .nil, c, g, xs, h => by
    unfold Ms.chk at h
    split at h
    · exact vm_nil
    · cases h
  | .sh e ms, c, g, xs, h => by
    unfold Ms.chk at h
    split at h
    · rw [Bool.and_eq_true] at h
      exact vm_sh g.src (snd e g h.1).1 (sndMs ms g h.2) (star_plain (chk_plain h.1))
    · cases h
  | .own e ms, c, g, xs, h => by
    unfold Ms.chk at h
    split at h
    · rw [Bool.and_eq_true, Bool.and_eq_true] at h
      exact vm_own g.src (sndF e g h.1.1 h.1.2) (sndMs ms g h.2) (star_plain (chk_plain h.1.1))
    · cases h
end
end L3

/-! L3r: the check is enough: statements, by induction; a def's promise. -/
namespace L3
open PySem PySem.Spec PyProof.Rows L2

section
variable {C : Ctx} {G : Gt} {W : WX} {c : Sc} {X : Cx}
def gRaw (is : List Nat) : TGs := fun vs σ H Q => vs.length = is.length ∧ Q (setV is vs σ) H
theorem Good.raw (g : Good C G W c X) : ∀ {is : List Nat} {es : List Expr}, chkNames c is es = true → PGs X es (gRaw is)
  | [], es, h => by
    unfold chkNames at h
    split at h
    · exact pgs_nil.imp fun vs σ H Q ⟨hl, q⟩ => by
        have e : vs = [] := List.length_eq_zero_iff.mp hl
        subst e
        exact ⟨rfl, q⟩
    · cases h
  | i :: is, es, h => by
    unfold chkNames at h
    split at h
    · rw [Bool.and_eq_true] at h
      exact (pgs_cons (g.pg h.1) (g.raw h.2) rfl).imp fun vs σ H Q ⟨hl, q⟩ => by
        cases vs with
        | nil => cases hl
        | cons v vs => exact ⟨v, vs, rfl, by simpa using hl, q⟩
    · cases h
theorem names_at {c : Sc} {i : Nat} {is : List Nat} {e : Expr} {es : List Expr} (h : chkNames c (i :: is) (e :: es) = true) : ∃ p, e = .Name (nameOf e) p ∧ c.N[i]? = some (nameOf e) ∧ chkNames c is es = true := by
  unfold chkNames at h
  cases e with
  | Name y p =>
    simp only [Bool.and_eq_true] at h
    unfold chkName at h
    simp only [Bool.and_eq_true, decide_eq_true_eq] at h
    exact ⟨p, rfl, h.1.1.1, h.2⟩
  | _ => cases h
theorem snd_par (g : GoodS C G W c X) {l is : List Nat} {ms : Ms} {ts vs : List Expr} {k k2 : Nat} {p p2 pos : Pos} (h1 : chkNames c is ts = true) (h2 : ms.chk c vs = true) (h3 : chkPar c is ts vs = true) :
    PS X (.Assign [.Tuple ts k p] (.Tuple vs k2 p2) pos) (cS C W (wPar l is ms.fl (wMs G ms))) := by
  have pa := sndMs ms g.toGood h2
  have hk : X.env.scope.kind = .function := by rw [g.hsc]; exact g.kind
  unfold chkPar at h3
  split at h3
  · rename_i e
    have hl := of_decide_eq_true h3
    have sw : swappedStores [.Tuple ts k p] (.Tuple vs k2 p2) X.env = Pure.pure none := swSt_eq hk (by rw [g.hsc]; exact e)
    have pg := pg_tup (pos := p) (k := k) g.calm (g.raw h1) (names_stars h1 X.env).1 (names_stars h1 X.env).2
    refine (ps_asg (pos := pos) (pe_tup pa) pg rfl sw rfl).imp fun D σ H h => ?_
    refine par_c (Q := fun xs H1 => xs.length ≤ sizeLine ∧ ∀ q, H1 q = none → gTup X.K is.length (gRaw is) (.ref q) σ (upd H1 q (.tup xs)) D.nx) g.src h fun xs H1 hx _ hq => ⟨by rw [hx]; exact Nat.le_trans hl (by decide), fun q hp => ⟨q, xs, rfl, .of upd_same, hx, hx, hq q hp⟩⟩
  · rename_i ns e
    split at h3
    · rename_i i j a b
      simp only [Bool.and_eq_true, decide_eq_true_eq, localB, beq_iff_eq] at h3
      obtain ⟨⟨⟨⟨en, la⟩, lb⟩, nij⟩, lv⟩ := h3
      obtain ⟨pa1, ea, na, h1'⟩ := names_at h1
      obtain ⟨pb1, eb, nb, _⟩ := names_at h1'
      obtain ⟨x, y, rfl⟩ : ∃ x y, vs = [x, y] := by
        match vs, lv with
        | [x, y], _ => exact ⟨x, y, rfl⟩
      subst en
      have sw : swappedStores [.Tuple [a, b] k p] (.Tuple [x, y] k2 p2) X.env = Pure.pure (some [nameOf a, nameOf b]) := swSt_eq hk (by rw [g.hsc]; exact e)
      rw [ea, eb] at sw ⊢
      refine (ps_par (i := i) (j := j) g.calm (by rw [g.hN]; exact g.nd) (by rw [g.hN]; exact na) (by rw [g.hN]; exact nb) nij (by rw [g.hsc]; exact la) (by rw [g.hsc]; exact lb) pa sw rfl).imp fun D σ H h => ?_
      exact par_c g.src h fun xs H1 hx hn _ => by
        match xs, hx with
        | [v, w], _ => exact ⟨v, w, rfl, hn⟩
    · rename_i i j m a b d
      simp only [Bool.and_eq_true, decide_eq_true_eq, localB, beq_iff_eq] at h3
      obtain ⟨⟨⟨⟨⟨⟨⟨en, la⟩, lb⟩, ld⟩, nij⟩, nim⟩, njm⟩, lv⟩ := h3
      obtain ⟨pa1, ea, na, h1'⟩ := names_at h1
      obtain ⟨pb1, eb, nb, h1''⟩ := names_at h1'
      obtain ⟨pd1, ed, nd, _⟩ := names_at h1''
      obtain ⟨x, y, z, rfl⟩ : ∃ x y z, vs = [x, y, z] := by
        match vs, lv with
        | [x, y, z], _ => exact ⟨x, y, z, rfl⟩
      subst en
      have sw : swappedStores [.Tuple [a, b, d] k p] (.Tuple [x, y, z] k2 p2) X.env = Pure.pure (some [nameOf a, nameOf b, nameOf d]) := swSt_eq hk (by rw [g.hsc]; exact e)
      rw [ea, eb, ed] at sw ⊢
      refine (ps_par3 (i := i) (j := j) (l := m) g.calm (by rw [g.hN]; exact g.nd) (by rw [g.hN]; exact na) (by rw [g.hN]; exact nb) (by rw [g.hN]; exact nd) nij nim njm (by rw [g.hsc]; exact la) (by rw [g.hsc]; exact lb) (by rw [g.hsc]; exact ld) pa sw rfl).imp fun D σ H h => ?_
      exact par_c g.src h fun xs H1 hx hn _ => by
        match xs, hx with
        | [u, v, w], _ => exact ⟨u, v, w, rfl, hn⟩
    · cases h3
  · cases h3
end

mutual
theorem sndS {C : Ctx} {G : Gt} {W : WX} {X : Cx} : ∀ (s : S) {c : Sc} (g : GoodS C G W c X) {st : Stmt}, chkS c s st = true → PS X st (cS C W (wS G s))
  | .never, c, g, st, h => vs_never
  | .pass, c, g, st, h => by
    unfold chkS at h
    split at h
    · exact vs_pass
    · cases h
  | .brk, c, g, st, h => by
    unfold chkS at h
    split at h
    · exact vs_break
    · cases h
  | .cont, c, g, st, h => by
    unfold chkS at h
    split at h
    · exact vs_cont
    · cases h
  | .retN, c, g, st, h => by
    unfold chkS at h
    split at h
    · exact vs_retN
    · cases h
  | .ret l e, c, g, st, h => by
    unfold chkS at h
    split at h
    · exact vs_ret g.src l (snd e g.toGood h).1
    · cases h
  | .retOwn i, c, g, st, h => by
    unfold chkS at h
    split at h
    · unfold chk at h
      split at h
      · simp only [Bool.and_eq_true, decide_eq_true_eq, Bool.not_eq_true'] at h
        obtain ⟨⟨⟨h1, h2⟩, h3⟩, h4⟩ := h
        exact (vs_retOwn (i := i) (pe_var (by rw [g.hN]; exact h1) (g.vis h2) h3 h4)).imp fun D σ H ⟨P, F0, H0, F, ρ, Dv, s, q, o⟩ => ⟨P, F0, H0, F, ρ, Dv, s, by
          have q : (match ρ[i]? with
            | some (.own (k + 1) d) => Dv.rt (k + 1) d
            | _ => False) := q
          split at q
          · exact ⟨_, _, by assumption, q⟩
          · exact q.elim, o⟩
      · cases h
    · cases h
  | .retF l e, c, g, st, h => by
    unfold chkS at h
    split at h
    · rw [Bool.and_eq_true] at h
      exact vs_retF (k := 0) g.src l (sndF e g.toGood h.1 h.2)
    · cases h
  | .set l i e, c, g, st, h => by
    unfold chkS at h
    split at h
    · rename_i y py v pos
      simp only [Bool.and_eq_true, Bool.or_eq_true, Bool.not_eq_true'] at h
      obtain ⟨⟨h1, h2⟩, h3⟩ := h
      have hk : X.env.scope.kind = .function := by rw [g.hsc]; exact g.kind
      have hN : X.N.Nodup := by rw [g.hN]; exact g.nd
      unfold chkName at h1
      simp only [Bool.and_eq_true, decide_eq_true_eq] at h1
      obtain ⟨⟨h11, h12⟩, h13⟩ := h1
      have hn : X.N[i]? = some y := by rw [g.hN]; exact h11
      have hf : X.fn y = true ∨ X.env.scope.names.lookup y = some .local := (g.fn y h13 h12).imp id fun z => by rw [g.hsc]; exact z
      cases q : swB c.sc v y py with
      | false =>
        exact (ps_set hN hn (g.loc h12) (snd e g.toGood h2).1 (by rw [sw_eq hk, g.hsc, q]) hf).imp fun D σ H h => set_c g.src l h
      | true =>
        rcases h3 with h3 | h3
        · rw [q] at h3; cases h3
        · cases e with
          | lc elt t it ifs own =>
            obtain ⟨e', tg, iter, fs, scope, p', rfl, hi, ok, hg, ht, he, hfo⟩ := lc_parts g.toGood h2
            have hyl : X.env.scope.names.lookup y = some .local := by
              rw [g.hsc]
              unfold swB at q
              simp only [Bool.and_eq_true, beq_iff_eq] at q
              exact q.1.1
            exact vs_setLc g.calm hN hi ok hg ht he hfo g.src l hn hyl (by rw [sw_eq hk, g.hsc, q])
          | _ => cases h3
    · cases h
  | .setF l i e, c, g, st, h => by
    unfold chkS at h
    split at h
    · rename_i y py v pos
      simp only [Bool.and_eq_true, Bool.or_eq_true, Bool.not_eq_true'] at h
      obtain ⟨⟨⟨h1, h2⟩, hfr⟩, h3⟩ := h
      have hk : X.env.scope.kind = .function := by rw [g.hsc]; exact g.kind
      have hN : X.N.Nodup := by rw [g.hN]; exact g.nd
      unfold chkName at h1
      simp only [Bool.and_eq_true, decide_eq_true_eq] at h1
      obtain ⟨⟨h11, h12⟩, h13⟩ := h1
      have hn : X.N[i]? = some y := by rw [g.hN]; exact h11
      have hf : X.fn y = true ∨ X.env.scope.names.lookup y = some .local := (g.fn y h13 h12).imp id fun z => by rw [g.hsc]; exact z
      cases q : swB c.sc v y py with
      | false =>
        exact (ps_set hN hn (g.loc h12) (sndF e g.toGood h2 hfr) (by rw [sw_eq hk, g.hsc, q]) hf).imp fun D σ H h => setF_c g.src l h
      | true =>
        rcases h3 with h3 | h3
        · rw [q] at h3; cases h3
        · cases e with
          | lc elt t it ifs own =>
            obtain ⟨e', tg, iter, fs, scope, p', rfl, hi, ok, hg, ht, he, hfo⟩ := lc_parts g.toGood h2
            have hyl : X.env.scope.names.lookup y = some .local := by
              rw [g.hsc]
              unfold swB at q
              simp only [Bool.and_eq_true, beq_iff_eq] at q
              exact q.1.1
            exact vs_setLcF g.calm hN hi ok hg ht he hfo g.src l hn hyl (by rw [sw_eq hk, g.hsc, q])
          | _ => cases h3
    · cases h
  | .setB l i e, c, g, st, h => by
    unfold chkS at h
    split at h
    · rename_i y py v pos
      simp only [Bool.and_eq_true, Bool.not_eq_true'] at h
      obtain ⟨⟨h1, h2⟩, q⟩ := h
      have hk : X.env.scope.kind = .function := by rw [g.hsc]; exact g.kind
      have hN : X.N.Nodup := by rw [g.hN]; exact g.nd
      unfold chkName at h1
      simp only [Bool.and_eq_true, decide_eq_true_eq] at h1
      obtain ⟨⟨h11, h12⟩, h13⟩ := h1
      have hn : X.N[i]? = some y := by rw [g.hN]; exact h11
      have hf : X.fn y = true ∨ X.env.scope.names.lookup y = some .local := (g.fn y h13 h12).imp id fun z => by rw [g.hsc]; exact z
      exact (ps_set hN hn (g.loc h12) (snd e g.toGood h2).1 (by rw [sw_eq hk, g.hsc, q]) hf).imp fun D σ H h => setB_c g.src l h
    · cases h
  | .asg l t e, c, g, st, h => by
    unfold chkS at h
    split at h
    · simp only [Bool.and_eq_true, Bool.not_eq_true'] at h
      obtain ⟨⟨h1, h2⟩, h3⟩ := h
      rename_i ts k p v pos
      refine vs_asg g.src l (snd e g.toGood h2).1 (g.tg h1 fun i hi => hi) (sw_tup (l := pos.line) (env := X.env) (ts := ts) (k := k) (p := p)) ?_ rfl
      cases v <;> first | rfl | cases h3
    · cases h
  | .par l is ms, c, g, st, h => by
    unfold chkS at h
    split at h
    · simp only [Bool.and_eq_true] at h
      exact snd_par g h.1.1 h.1.2 h.2
    · cases h
  | .expr l e, c, g, st, h => by
    unfold chkS at h
    split at h
    · simp only [Bool.and_eq_true, Bool.not_eq_true'] at h
      exact vs_expr g.src l (snd e g.toGood h.1).1 (sw_none h.2)
    · cases h
  | .app l i e, c, g, st, h => by
    unfold chkS at h
    split at h
    · rename_i y p m apos v cpos pos
      simp only [Bool.and_eq_true, decide_eq_true_eq] at h
      obtain ⟨⟨⟨rfl, h2⟩, h3⟩, h4⟩ := h
      unfold chk at h2
      simp only [Bool.and_eq_true, decide_eq_true_eq, Bool.not_eq_true'] at h2
      obtain ⟨⟨⟨h21, h22⟩, h23⟩, h24⟩ := h2
      have st := star_plain (es := []) (env := X.env) (chk_plain h3)
      exact vs_app g.src g.hK l (pe_var (by rw [g.hN]; exact h21) (g.vis h22) h23 h24) (snd e g.toGood h3).1 rfl h4 st (by rw [st]; rfl)
    · cases h
  | .ite l t a b, c, g, st, h => by
    unfold chkS at h
    split at h
    · simp only [Bool.and_eq_true] at h
      exact vs_if g.src l (snd t g.toGood h.1.1).2 (sndSs a g h.1.2) (sndSs b g h.2)
    · cases h
  | .for l t it b, c, g, st, h => by
    unfold chkS at h
    split at h
    · simp only [Bool.and_eq_true] at h
      exact vs_for g.src l g.po g.calm (sndI it g.toGood h.1.1.1.2 (needT_of h.1.1.2)) (g.tg h.1.1.1.1 fun i hi => hi) (sndSs b g h.2) (folded_set h.1.2)
    · cases h
  | .whl l t b, c, g, st, h => by
    unfold chkS at h
    split at h
    · simp only [Bool.and_eq_true] at h
      exact vs_while g.src l g.po (snd t g.toGood h.1).2 (sndSs b g h.2)
    · cases h
theorem sndSs {C : Ctx} {G : Gt} {W : WX} {X : Cx} : ∀ (ss : Ss) {c : Sc} (g : GoodS C G W c X) {sts : List Stmt}, chkSs c ss sts = true → PSs X sts (cS C W (wSs G ss))
  | .nil, c, g, sts, h => by
    unfold chkSs at h
    split at h
    · exact vss_nil
    · cases h
  | .cons s ss, c, g, sts, h => by
    unfold chkSs at h
    split at h
    · simp only [Bool.and_eq_true] at h
      have q := vss_cons (w := wS G s) (w' := wSs G ss) (sndS s g h.1) (sndSs ss g h.2)
      exact q
    · cases h
end
end L3

/-! L3s: a def of the text, checked, keeps its word. -/
namespace L3
open PySem PySem.Spec PyProof.Rows L2

def Has (P : Program) (w : World) (base : Heap) (C : Ctx) (G : Gt) (k : Nat) (x : Str) : Prop :=
  ∃ i a fd ps, G x = some i ∧ C.mg x = some (.ref a) ∧ PySem.W.keepIn C.K (.ref a) = true ∧ L2.Binds C.K fd ps [] ∧ FnG P w C.K C.mg base k a fd ps (spV C i.n i.fr i.sp) ∧ (x == ("__debug__" : Str)) = false
theorem Has.mono {P : Program} {w : World} {base : Heap} {C : Ctx} {G : Gt} {j k : Nat} {x : Str} (h : Has P w base C G j x) (l : j ≤ k) : Has P w base C G k x :=
  let ⟨i, a, fd, ps, h1, h2, h3, h4, h5, h6⟩ := h
  ⟨i, a, fd, ps, h1, h2, h3, h4, h5.mono l, h6⟩
/-- what a def's body is run with -/
def endsOf (fr : Nat) (Q : T → Prop) (E : Ex → Prop) : Dv := { nx := fun _ => fr = 0 ∧ Q .non, rt := fun m d => (fr = 0 ∨ m = fr) ∧ Q d, ex := fun _ x => E x }
/-- the text's side, all by decide -/
structure Text (G : Gt) (st : Stmt) (N ps : List Str) (c : Sc) (b : Ss) : Prop where
  sc : FnScope N ps (defScope st)
  cN : c.N = N
  csc : c.sc = defScope st
  osc : c.osc = defScope st
  chk : chkSs c b (defBody st) = true
theorem fnG_def {P : Program} {w : World} {base : Heap} {C : Ctx} {G : Gt} {k : Nat} {x : Str} {st : Stmt} {a : Addr} {fd : FuncData} {N ps : List Str} {c : Sc} {b : Ss} {i : FnInfo} (hs : SrcStays C)
    (T0 : Text G st N ps c b) (hn : ps.length = i.n) (F : Fun C.K x x st a fd)
    (bn : ∀ y ∈ c.bn, C.mg y = none) (fns : ∀ f ∈ c.fns, Has P w base C G k f) (frs : ∀ f ∈ c.frs, ∃ i, G f = some i ∧ i.fr = 1) (hg : c.gcd = true → C.mg "gcd" = some (.builtin "math.gcd"))
    (h : ∀ ds Q E, ds.length = i.n → i.sp ds Q E → wSs G b (startT N ds) (endsOf i.fr Q E)) : FnG P w C.K C.mg base (k + 1) a fd ps (spV C i.n i.fr i.sp) := by
  refine fn_ok hs F T0.sc hn (wb := wSs G b) (fun cdv A outer s H E hr hgd => ?_) h
  refine sndSs b ⟨⟨hs, T0.cN.symm, by rw [T0.cN]; exact T0.sc.nd, T0.csc.symm, rfl, rfl, rfl, ?_, hgd, fun y _ _ => .inl rfl, bn, fun f hf => ?_, frs, hg, takes_of rfl rfl rfl rfl⟩, passes_of rfl, by rw [T0.csc]; exact T0.sc.kind⟩ T0.chk
  · have := hr.un
    show (A.deeper _).units + 65 < cLine
    omega
  · obtain ⟨i, a, fd, ps, h1, h2, h3, h4, h5, h6⟩ := fns f hf
    exact ⟨i, a, fd, ps, k, h1, h2, h3, h4, h5, hr, h6⟩
theorem has_def {P : Program} {w : World} {base : Heap} {C : Ctx} {G : Gt} {k : Nat} {x : Str} {st : Stmt} {a : Addr} {fd : FuncData} {N ps : List Str} {c : Sc} {b : Ss} {i : FnInfo} (hs : SrcStays C)
    (T0 : Text G st N ps c b) (hi : G x = some i) (hn : ps.length = i.n) (F : Fun C.K x x st a fd) (hb : L2.Binds C.K fd ps []) (hm : C.mg x = some (.ref a)) (hd : (x == ("__debug__" : Str)) = false)
    (bn : ∀ y ∈ c.bn, C.mg y = none) (fns : ∀ f ∈ c.fns, Has P w base C G k f) (frs : ∀ f ∈ c.frs, ∃ i, G f = some i ∧ i.fr = 1) (hg : c.gcd = true → C.mg "gcd" = some (.builtin "math.gcd"))
    (h : ∀ ds Q E, ds.length = i.n → i.sp ds Q E → wSs G b (startT N ds) (endsOf i.fr Q E)) : Has P w base C G (k + 1) x :=
  ⟨i, a, fd, ps, hi, hm, F.kp, hb, fnG_def hs T0 hn F bn fns frs hg h, hd⟩
theorem Has.of_fn {P : Program} {w : World} {base : Heap} {C : Ctx} {G : Gt} {k : Nat} {x : Str} {a : Addr} {fd : FuncData} {ps : List Str} {i : FnInfo} (hi : G x = some i) (hm : C.mg x = some (.ref a)) (hk : PySem.W.keepIn C.K (.ref a) = true) (hb : L2.Binds C.K fd ps [])
    (F : FnG P w C.K C.mg base k a fd ps (spV C i.n i.fr i.sp)) (hd : (x == ("__debug__" : Str)) = false) : Has P w base C G k x := ⟨i, a, fd, ps, hi, hm, hk, hb, F, hd⟩
end L3

/-! L3t: the drawn source: what it is, and that another description of a heap will do. -/
namespace L3
open PySem PySem.Spec PyProof.Rows L2

abbrev kCells : Key := .inr "cells"
abbrev kLeft : Key := .inr "left"
abbrev kMixed : Key := .inr "mixed"
abbrev kTurn : Key := .inr "turn"
def kvS (c : Addr) (l m t : Int) : List (Key × V) := [(kCells, .ref c), (kLeft, .int l), (kMixed, .int m), (kTurn, .int t)]
theorem ne1 : ¬ Str.ofString "cells" = Str.ofString "left" := by decide +kernel
theorem ne2 : ¬ Str.ofString "cells" = Str.ofString "mixed" := by decide +kernel
theorem ne3 : ¬ Str.ofString "cells" = Str.ofString "turn" := by decide +kernel
theorem ne4 : ¬ Str.ofString "left" = Str.ofString "mixed" := by decide +kernel
theorem ne5 : ¬ Str.ofString "left" = Str.ofString "turn" := by decide +kernel
theorem ne6 : ¬ Str.ofString "mixed" = Str.ofString "turn" := by decide +kernel
theorem ne7 : ¬ Str.ofString "mixed" = Str.ofString "left" := by decide +kernel
theorem ne8 : ¬ Str.ofString "turn" = Str.ofString "left" := by decide +kernel
theorem ne9 : ¬ Str.ofString "turn" = Str.ofString "mixed" := by decide +kernel
theorem put_left {c : Addr} {l m t l' : Int} : putK (kvS c l m t) kLeft (.int l') = kvS c l' m t := by
  simp [putK, kvS, kCells, kLeft, kMixed, kTurn, ne1, ne2, ne3, ne4, ne5, ne6, ne7, ne8, ne9]
theorem put_turn {c : Addr} {l m t t' : Int} : putK (kvS c l m t) kTurn (.int t') = kvS c l m t' := by
  simp [putK, kvS, kCells, kLeft, kMixed, kTurn, ne1, ne2, ne3, ne4, ne5, ne6, ne7, ne8, ne9]
theorem get_cells {c : Addr} {l m t : Int} : valV (kvS c l m t) kCells = some (.ref c) := rfl
theorem get_left {c : Addr} {l m t : Int} : valV (kvS c l m t) kLeft = some (.int l) := by
  simp [valV, kvS, kCells, kLeft, kMixed, kTurn, ne1, ne2, ne3, ne4, ne5, ne6, ne7, ne8, ne9]
theorem get_mixed {c : Addr} {l m t : Int} : valV (kvS c l m t) kMixed = some (.int m) := by
  simp [valV, kvS, kCells, kLeft, kMixed, kTurn, ne1, ne2, ne3, ne4, ne5, ne6, ne7, ne8, ne9]
theorem get_turn {c : Addr} {l m t : Int} : valV (kvS c l m t) kTurn = some (.int t) := by
  simp [valV, kvS, kCells, kLeft, kMixed, kTurn, ne1, ne2, ne3, ne4, ne5, ne6, ne7, ne8, ne9]
/-- the source at a, its cells at c, the rest as H0 -/
def SrcAt (H0 : Hp) (a c : Addr) (H : Hp) : Prop := c ≠ a ∧ (∃ l m t, H a = some (.dK (kvS c l m t))) ∧ (∃ cs : List Int, H c = some (.lst (cs.map V.int))) ∧ ∀ b, b ≠ a → b ≠ c → H b = H0 b
theorem SrcAt.putA {H0 H : Hp} {a c : Addr} (h : SrcAt H0 a c H) (l m t : Int) : SrcAt H0 a c (upd H a (.dK (kvS c l m t))) := by
  obtain ⟨h1, h2, ⟨cs, h3⟩, h4⟩ := h
  exact ⟨h1, ⟨l, m, t, upd_same⟩, ⟨cs, by rw [upd_ne h1]; exact h3⟩, fun b x y => by rw [upd_ne x]; exact h4 b x y⟩
theorem SrcAt.putC {H0 H : Hp} {a c : Addr} (h : SrcAt H0 a c H) (cs : List Int) : SrcAt H0 a c (upd H c (.lst (cs.map V.int))) := by
  obtain ⟨h1, ⟨l, m, t, h2⟩, _, h4⟩ := h
  exact ⟨h1, ⟨l, m, t, by rw [upd_ne h1.symm]; exact h2⟩, ⟨cs, upd_same⟩, fun b x y => by rw [upd_ne y]; exact h4 b x y⟩

section
variable (P : Program) (w : World)
def phiA (a c : Addr) (h : Heap) : Prop := ∃ l m t : Int, ObjOk P w (fun _ => none) h a (.dK (kvS c l m t))
def phiC (c : Addr) (h : Heap) : Prop := ∃ cs : List Int, ObjOk P w (fun _ => none) h c (.lst (cs.map V.int))
/-- .. told by what is true of its two objects -/
def SrcX (H : Hp) (a : Addr) : Prop := ∃ c, c ≠ a ∧ H a = some (.ext (phiA P w a c)) ∧ H c = some (.ext (phiC P w c))
end
section
variable {P : Program} {w : World} {H H' : Hp} {h h1 h2 : Heap} {a c : Addr}
theorem phiA_keep (x : phiA P w a c h1) (k : ∀ o, h1.get? a = some o → h2.get? a = some o) : phiA P w a c h2 := by
  obtain ⟨l, m, t, z, n, vs, r, o, es, ep, e, ex, ed, ks, pr, nd⟩ := x
  exact ⟨l, m, t, z, n, vs, r, o, es, ep, k o e, ex, ed, ks, pr, nd⟩
theorem phiC_keep (x : phiC P w c h1) (k : ∀ o, h1.get? c = some o → h2.get? c = some o) : phiC P w c h2 := by
  obtain ⟨cs, z, its, n, r, e⟩ := x
  exact ⟨cs, z, its, n, r, k _ e⟩
theorem phiA_ok (x : phiA P w a c h) : ObjOk P w H h a (.ext (phiA P w a c)) := by
  have x0 := x
  obtain ⟨l, m, t, z, n, vs, r, o, es, ep, e, _⟩ := x
  exact ⟨x0, ⟨o, e⟩, fun _ _ => phiA_keep⟩
theorem phiC_ok (x : phiC P w c h) : ObjOk P w H h c (.ext (phiC P w c)) := by
  have x0 := x
  obtain ⟨cs, z, its, n, r, e⟩ := x
  exact ⟨x0, ⟨_, e⟩, fun _ _ => phiC_keep⟩
/-- no tuple and no dict of an instance: nothing else is told by it -/
def Loose : HO → Prop
  | .tup _ => False
  | .own _ => False
  | _ => True
theorem objOk_move {b : Addr} {o : HO} (e : ∀ b u, H b = some u → ¬ Loose u → H' b = some u) (x : ObjOk P w H h b o) : ObjOk P w H' h b o := by
  induction o with
  | dT kvs =>
    obtain ⟨z, n, xs, pr, r⟩ := x
    exact ⟨z, n, xs, L2.Paired.mapP pr fun p q ⟨y1, y2, y3⟩ => ⟨y1, e _ _ y2 (fun z => z), y3⟩, r⟩
  | ins C dx fs =>
    obtain ⟨y, r⟩ := x
    exact ⟨e _ _ y (fun z => z), r⟩
  | frz ob u ih => exact ⟨x.1, ih x.2⟩
  | lst xs => exact x
  | tup xs => exact x
  | dK kvs => exact x
  | set S n => exact x
  | own y => exact x
  | xd fs => exact x
  | rng l h => exact x
  | tbl ps => exact x
  | met f y => exact x
  | ext φ => exact x
end
/-- tracked the same, and what is no loose thing stays -/
structure Redo (H H' : Hp) : Prop where
  none : ∀ b, H b = none ↔ H' b = none
  keep : ∀ b u, H b = some u → ¬ Loose u → H' b = some u
  frz : ∀ b o u, H b = some (.frz o u) → H' b = some (.frz o u)
  tbl : ∀ b ps, H b = some (.tbl ps) → H' b = some (.tbl ps)
theorem Redo.hok {P : Program} {w : World} {H H' : Hp} {h : Heap} (r : Redo H H') (x : HOk P w H h) (n : ∀ b u, H' b = some u → H b = some u ∨ ObjOk P w H' h b u) : HOk P w H' h := fun b u e => by
  rcases n b u e with z | z
  · exact objOk_move r.keep (x b u z)
  · exact z
/-- a def's promise by another description of the heap -/
theorem FnG.redo {P : Program} {w : World} {K : PySem.W.Frag} {mg : Str → Option Value} {base : Heap} {k : Nat} {f : Addr} {fd : FuncData} {ps : List Str} {sp0 sp : Sp} (F : FnG P w K mg base k f fd ps sp0) (hl : ∀ vs H Q E, sp vs H Q E → vs.length = ps.length)
    (h : ∀ vs H Q E h0, HOk P w H h0 → sp vs H Q E → ∃ H1, Redo H H1 ∧ HOk P w H1 h0 ∧
      sp0 vs H1 (fun v H2 => ∃ H3, (∀ b, H2 b = none → H3 b = none) ∧ (∀ b u, H2 b = some u → ¬ Loose u → H3 b = some u) ∧ (∀ b o u, H2 b = some (.frz o u) → H3 b = some (.frz o u)) ∧ (∀ b p, H2 b = some (.tbl p) → H3 b = some (.tbl p)) ∧ (∀ hh, HOk P w H2 hh → HOk P w H3 hh) ∧ Q v H3) (fun _ _ _ => False)) : FnG P w K mg base k f fd ps sp := by
  refine ⟨hl, fun A outer s H args us vs Q E hr hg e0 hb r hs => ?_⟩
  obtain ⟨H1, rd, hok1, q⟩ := h vs H Q E s.heap e0.hok hs
  have e1 : Env0 P w K mg base A outer s H1 := ⟨e0.frames, e0.mod, fun b o e => ⟨(e0.bs b o e).1, (rd.none b).mp (e0.bs b o e).2⟩, e0.bsz, e0.funs, fun b hb => (rd.none b).mp (e0.frf b hb), hok1, e0.bare⟩
  refine codeAny_mono (F.run A outer s H1 args us vs _ _ hr hg e1 hb r q) fun r s' hq => ?_
  cases r with
  | error e =>
    obtain ⟨_, _, _, _, _, _, _, _, _, _, _, _, z⟩ := (show L2.CX P w outer H1 s (fun _ _ _ => False) e s' from hq)
    exact z.elim
  | ok fl =>
    cases fl with
    | next => exact False.elim hq
    | brk => exact False.elim hq
    | cont => exact False.elim hq
    | ret u =>
      obtain ⟨v, H2, os, bare, un, hok2, rv, H3, n3, k3, f3, t3, o3, q3⟩ := hq
      refine ⟨v, H3, os, bare, ⟨fun b o e n => un.keep b o e ((rd.none b).mp n), fun b o e n => un.slot b o e ((rd.none b).mp n), fun b o e n hx => n3 b (un.free b o e ((rd.none b).mp n) hx), un.there, fun b xs e => k3 b _ (un.tups b xs (rd.keep b _ e fun z => z)) fun z => z, fun b o u e => f3 b o u (un.frzs b o u (rd.frz b o u e)), fun b ps e => ?_⟩, o3 _ hok2, rv, q3⟩
      obtain ⟨more, z⟩ := un.tbls b ps (rd.tbl b ps e)
      exact ⟨more, t3 b _ z⟩
end L3
namespace L3
open PySem PySem.Spec PyProof.Rows L2
/-- * where one factor is small -/
theorem op_mulS {X : Cx} : OpR X (binaryOp .Mult) (rI IntMulOk fun i j => .int (i * j)) := opI fun _ _ _ _ _ _ _ hc q => mul_int q hc
end L3
namespace L3
open PySem PySem.Spec PyProof.Rows L2
theorem merge_kvS {c : Addr} {l m t : Int} : mergeK [] (kvS c l m t) = kvS c l m t := by
  simp [mergeK, putK, kvS, kCells, kLeft, kMixed, kTurn, ne1, ne2, ne3, ne4, ne5, ne6, ne7, ne8, ne9]
theorem same_new {H : Hp} {p : Addr} {o : HO} (h : H p = none) : Same H (upd H p o) := fun b x e => by
  rw [upd_ne (ne_of_none e h)]
  exact e
theorem none_upd {H : Hp} {p q : Addr} {o : HO} (h : upd H q o p = none) : p ≠ q ∧ H p = none := by
  by_cases e : p = q
  · subst e; rw [upd_same] at h; cases h
  · rw [upd_ne e] at h; exact ⟨e, h⟩
end L3

/-! L3u: the source in the tree's language. -/
namespace L3
open PySem PySem.Spec PyProof.Rows L2

/-- the drawn script -/
def ScriptAt (K : PySem.W.Frag) (H : Hp) (a : Addr) : Prop := ∃ ns : List Int, ns.length ≤ 63 ∧ ((∃ o, H a = some (.frz o (.lst (ns.map V.int)))) ∨ ∀ H', SqL K H' a (ns.map V.int))
def ctx (P : Program) (w : World) (K : PySem.W.Frag) (mg : Str → Option Value) : Ctx := ⟨K, mg, fun k H a => match k with
  | 0 => ScriptAt K H a
  | _ => SrcX P w H a⟩
theorem ctx_stays {P : Program} {w : World} {K : PySem.W.Frag} {mg : Str → Option Value} : SrcStays (ctx P w K mg) := fun k H H' a h e => by
  match k with
  | 0 =>
    obtain ⟨ns, hl, h⟩ := h
    exact ⟨ns, hl, h.imp (fun ⟨o, h⟩ => ⟨o, e _ _ (fun z => z) h⟩) id⟩
  | k + 1 =>
    obtain ⟨c, hc, h1, h2⟩ := h
    exact ⟨c, hc, e _ _ (fun z => z) h1, e _ _ (fun z => z) h2⟩
def spOpen : VSp := fun ds Q _ => ∃ a, ds = [.src 0 a] ∧ ∀ b, Q (.src 1 b)
def spPick : VSp := fun ds Q _ => ∃ a n, ds = [.src 1 a, .int n] ∧ n < 2 ^ 60 ∧ ∀ r : Int, 0 ≤ r → (r < n ∨ r = 0) → Q (.int r)
def spOpen0 (K : PySem.W.Frag) : Sp := fun vs H Q _ => ∃ (a0 : Addr) (ns : List Int), vs = [.ref a0] ∧ SqL K H a0 (ns.map V.int) ∧ ns.length ≤ 63 ∧ ∀ a c H', c ≠ a → H a = none → H c = none → (∃ l m t, H' a = some (.dK (kvS c l m t))) → (∃ cs : List Int, H' c = some (.lst (cs.map V.int))) → Same H H' → Q (.ref a) H'
def spPick0 : Sp := fun vs H Q _ => ∃ a c n, vs = [.ref a, .int n] ∧ n < 2 ^ 60 ∧ SrcAt H a c H ∧ ∀ (r : Int) H', SrcAt H a c H' → 0 ≤ r → (r < n ∨ r = 0) → Q (.int r) H'
theorem Redo.refl {H : Hp} : Redo H H := ⟨fun _ => Iff.rfl, fun _ _ h _ => h, fun _ _ _ h => h, fun _ _ h => h⟩
section
variable {P : Program} {w : World} {K : PySem.W.Frag} {mg : Str → Option Value} {base : Heap} {k : Nat} {f : Addr} {fd : FuncData} {ps : List Str}
/-- the source told anew -/
def reX (P : Program) (w : World) (H : Hp) (a c : Addr) : Hp := upd (upd H c (.ext (phiC P w c))) a (.ext (phiA P w a c))
theorem reX_ne {H : Hp} {a c b : Addr} (h1 : b ≠ a) (h2 : b ≠ c) : reX P w H a c b = H b := by unfold reX; rw [upd_ne h1, upd_ne h2]
theorem reX_a {H : Hp} {a c : Addr} : reX P w H a c a = some (.ext (phiA P w a c)) := upd_same
theorem reX_c {H : Hp} {a c : Addr} (h : c ≠ a) : reX P w H a c c = some (.ext (phiC P w c)) := by unfold reX; rw [upd_ne h, upd_same]
theorem reX_src {H : Hp} {a c : Addr} (h : c ≠ a) : SrcX P w (reX P w H a c) a := ⟨c, h, reX_a, reX_c h⟩
theorem reX_keep {H : Hp} {a c : Addr} (hA : ∃ l m t, H a = some (.dK (kvS c l m t))) (hC : ∃ cs : List Int, H c = some (.lst (cs.map V.int))) :
    (∀ b, H b = none → reX P w H a c b = none) ∧ (∀ b u, H b = some u → ¬ Loose u → reX P w H a c b = some u) ∧ (∀ b o u, H b = some (.frz o u) → reX P w H a c b = some (.frz o u)) ∧ (∀ b p, H b = some (.tbl p) → reX P w H a c b = some (.tbl p)) ∧ ∀ hh, HOk P w H hh → HOk P w (reX P w H a c) hh := by
  obtain ⟨l, m, t, hA⟩ := hA
  obtain ⟨cs, hC⟩ := hC
  have ne : ∀ {b u}, H b = some u → (∀ kvs, u ≠ .dK kvs) → (∀ xs, u ≠ .lst xs) → b ≠ a ∧ b ≠ c := fun {b u} e n1 n2 =>
    ⟨fun z => by subst z; rw [hA] at e; cases e; exact n1 _ rfl, fun z => by subst z; rw [hC] at e; cases e; exact n2 _ rfl⟩
  have k3 : ∀ b u, H b = some u → ¬ Loose u → reX P w H a c b = some u := fun b u e n => by
    obtain ⟨h1, h2⟩ := ne e (fun _ z => by subst z; exact n trivial) fun _ z => by subst z; exact n trivial
    rw [reX_ne h1 h2]; exact e
  refine ⟨fun b n => ?_, k3, fun b o u e => ?_, fun b p e => ?_, fun hh ok b u e => ?_⟩
  · rw [reX_ne (fun z => by subst z; rw [hA] at n; cases n) (fun z => by subst z; rw [hC] at n; cases n)]; exact n
  · obtain ⟨h1, h2⟩ := ne e (fun _ z => nomatch z) fun _ z => nomatch z
    rw [reX_ne h1 h2]; exact e
  · obtain ⟨h1, h2⟩ := ne e (fun _ z => nomatch z) fun _ z => nomatch z
    rw [reX_ne h1 h2]; exact e
  · by_cases h1 : b = a
    · subst h1
      rw [reX_a] at e
      cases e
      exact phiA_ok ⟨l, m, t, ok b _ hA⟩
    · by_cases h2 : b = c
      · subst h2
        unfold reX at e
        rw [upd_ne h1, upd_same] at e
        cases e
        exact phiC_ok ⟨cs, ok b _ hC⟩
      · rw [reX_ne h1 h2] at e
        exact objOk_move k3 (ok b u e)
theorem open_has (F : FnG P w K mg base k f fd ps (spOpen0 K)) (hps : ps.length = 1) : FnG P w K mg base k f fd ps (spV (ctx P w K mg) 1 0 spOpen) := by
  refine F.redo (fun vs H Q E ⟨_, _, _, _, h, _⟩ => h.trans hps.symm) fun vs H Q E h0 ok h => ⟨H, .refl, ok, ?_⟩
  obtain ⟨F0, ds, Qv, Ev, _, dm, hds, ⟨a0, rfl, qv⟩, r0, _, _⟩ := h
  obtain ⟨v, rfl, hd⟩ := hds.one
  cases hd with
  | src hs =>
    obtain ⟨ns, hl, hs⟩ := (show ScriptAt K H a0 from hs)
    refine ⟨a0, ns, rfl, ?_, hl, fun a c H' hca na nc hA hC sm => ?_⟩
    · rcases hs with ⟨o, e⟩ | hs
      · exact .inl (.inr ⟨o, e⟩)
      · exact hs H
    · obtain ⟨n3, k3, f3, t3, o3⟩ := reX_keep (P := P) (w := w) hA hC
      refine ⟨reX P w H' a c, n3, k3, f3, t3, o3, r0 rfl _ _ F0 _ ⟨fun b u e => ?_, fun _ z => z, fun _ z => .inl z⟩ (.src (k := 1) (show SrcX P w _ a from reX_src hca)) (qv a)⟩
      rw [reX_ne (ne_of_none e na) (ne_of_none e nc)]
      exact sm b u e
theorem pick_has (F : FnG P w K mg base k f fd ps spPick0) (hps : ps.length = 2) : FnG P w K mg base k f fd ps (spV (ctx P w K mg) 2 0 spPick) := by
  refine F.redo (fun vs H Q E ⟨_, _, _, _, h, _⟩ => h.trans hps.symm) fun vs H Q E h0 ok h => ?_
  obtain ⟨F0, ds, Qv, Ev, _, dm, hds, ⟨a, n, rfl, hn, qv⟩, r0, _, _⟩ := h
  obtain ⟨v, v', rfl, hd, hd'⟩ := hds.two
  obtain rfl := hd'.int_eq
  cases hd with
  | src hs =>
    obtain ⟨c, hca, hA, hC⟩ := (show SrcX P w H a from hs)
    obtain ⟨⟨l, m, t, oA⟩, _⟩ := ok a _ hA
    obtain ⟨⟨cs, oC⟩, _⟩ := ok c _ hC
    have hH1 : ∀ b, b ≠ a → b ≠ c → upd (upd H c (.lst (cs.map V.int))) a (.dK (kvS c l m t)) b = H b := fun b h1 h2 => by rw [upd_ne h1, upd_ne h2]
    have ne : ∀ {b u}, H b = some u → (∀ φ, u ≠ .ext φ) → b ≠ a ∧ b ≠ c := fun {b u} e n1 =>
      ⟨fun z => by subst z; rw [hA] at e; cases e; exact n1 _ rfl, fun z => by subst z; rw [hC] at e; cases e; exact n1 _ rfl⟩
    have rd : Redo H (upd (upd H c (.lst (cs.map V.int))) a (.dK (kvS c l m t))) := by
      refine ⟨fun b => ?_, fun b u e nl => ?_, fun b o u e => ?_, fun b p e => ?_⟩
      · by_cases h1 : b = a
        · subst h1; rw [upd_same, hA]; exact ⟨fun z => (nomatch z), fun z => (nomatch z)⟩
        · by_cases h2 : b = c
          · subst h2; rw [upd_ne h1, upd_same, hC]; exact ⟨fun z => (nomatch z), fun z => (nomatch z)⟩
          · rw [hH1 b h1 h2]
      · obtain ⟨h1, h2⟩ := ne e fun _ z => by subst z; exact nl trivial
        rw [hH1 b h1 h2]; exact e
      · obtain ⟨h1, h2⟩ := ne e fun _ z => nomatch z
        rw [hH1 b h1 h2]; exact e
      · obtain ⟨h1, h2⟩ := ne e fun _ z => nomatch z
        rw [hH1 b h1 h2]; exact e
    refine ⟨_, rd, rd.hok ok fun b u e => ?_, a, c, n, rfl, hn, ⟨hca, ⟨l, m, t, upd_same⟩, ⟨cs, by rw [upd_ne hca, upd_same]⟩, fun _ _ _ => rfl⟩, fun r H' hS hr0 hr1 => ?_⟩
    · by_cases h1 : b = a
      · subst h1; rw [upd_same] at e; cases e; exact .inr oA
      · by_cases h2 : b = c
        · subst h2; rw [upd_ne h1, upd_same] at e; cases e; exact .inr oC
        · rw [hH1 b h1 h2] at e; exact .inl e
    · obtain ⟨_, hA', hC', hR⟩ := hS
      obtain ⟨n3, k3, f3, t3, o3⟩ := reX_keep (P := P) (w := w) hA' hC'
      refine ⟨reX P w H' a c, n3, k3, f3, t3, o3, r0 rfl _ _ F0 _ ⟨fun b u e => ?_, fun _ z => z, fun _ z => .inl z⟩ (.int r) (qv r hr0 hr1)⟩
      by_cases h1 : b = a
      · subst h1; rw [reX_a, ← hA]; exact e
      · by_cases h2 : b = c
        · subst h2; rw [reX_c hca, ← hC]; exact e
        · rw [reX_ne h1 h2, hR b h1 h2, hH1 b h1 h2]; exact e
end
end L3

/-! L3v: the end of a law. -/
namespace L3
open PySem PySem.Spec PyProof.Rows L2

def spLaw : VSp := fun ds Q _ => ∃ a, ds = [.src 0 a] ∧ Q (.bl true)
theorem law_end {P : Program} {w : World} {K : PySem.W.Frag} {mg mb : Str → Option Value} {k : Nat} {fa a : Addr} {fd : FuncData} {x : Str} {s₁ : Shared} {vs : List Value} {ns : List Int}
    (KX : K.In s₁.heap) (hns : s₁.heap.Ns mainGlobals mg) (hb : s₁.heap.Ns builtinsNs mb) (hbb : ∀ x : Str, x ≠ "__name__" → mb x = bootBuiltins x) (hlim : s₁.heap.NoLimit) (hg : s₁.gens = #[])
    (ha : s₁.heap.get? a = some { cls := .type "list", data := .seq vs.toArray }) (hi : IntsAre vs ns) (hl : ns.length ≤ 63) (hr : Room k callerA)
    (F : ∀ base : Heap, K.In base → base.Ns mainGlobals mg → FnG P w K mg base k fa fd [x] (spV (ctx P w K mg) 1 0 spLaw)) (hbind : ∀ (s : Shared) (u : Value), BindsTo s fd ⟨[u], []⟩ [(x, u)]) :
    codeAny (model P w) callerA (.call (.ref fa) ⟨[.ref a], []⟩) (fun r s' => r = .ok (.ret (.bool true)) ∧ OldK s₁.heap s'.heap ∧ s'.os = s₁.os ∧ AllBare s'.gens) s₁ := by
  have rv := vals_ints hi
  have lenV := hi.length
  have hlz : ns.length ≤ sizeLine := Nat.le_trans hl (by decide)
  -- nothing but the script is told of, and it is locked
  have core : ∀ H : Hp, (∀ b u, H b = some u → b = a ∧ u = .frz { cls := .type "list", data := .seq vs.toArray } (.lst (ns.map V.int))) → ScriptAt K H a → HOk P w H s₁.heap → (H a ≠ none → K.lookup a = none) →
      codeAny (model P w) callerA (.call (.ref fa) ⟨[.ref a], []⟩) (fun r s' => r = .ok (.ret (.bool true)) ∧ OldK s₁.heap s'.heap ∧ s'.os = s₁.os ∧ AllBare s'.gens) s₁ := by
    intro H hA hS hok hK
    have base_of : ∀ {b : Addr} {o : Obj}, s₁.heap.get? b = some o → H b = none → (hidT s₁.heap H).get? b = some o := fun e n => hidT_get e n
    have noA : ∀ {b : Addr} {o : Obj} {es : Array DictEntry} {ep : Nat}, s₁.heap.get? b = some o → o.data = .dict es ep → H b = none := fun {b o es ep} e d => by
      cases q : H b with
      | none => rfl
      | some u =>
        obtain ⟨rfl, _⟩ := hA b u q
        rw [ha] at e; cases e
        have d' : Data.seq vs.toArray _ = Data.dict es ep := d
        cases d'
    have nsK : ∀ {b : Addr} {m : Str → Option Value}, s₁.heap.Ns b m → (hidT s₁.heap H).Ns b m := fun {b m} ⟨o, es, ep, e, d, r⟩ => ⟨o, es, ep, base_of e (noA e d), d, r⟩
    have hKb : K.In (hidT s₁.heap H) := fun b o e => base_of (KX b o e) (by
      cases q : H b with
      | none => rfl
      | some u =>
        obtain ⟨rfl, _⟩ := hA b u q
        rw [hK (by rw [q]; simp)] at e; cases e)
    have hM : Mod K mg (hidT s₁.heap H) := ⟨hKb, nsK hns, ⟨mb, nsK hb, hbb⟩, let ⟨mc, h1, h2⟩ := hlim; ⟨mc, nsK h1, h2⟩⟩
    have e0 : Env0 P w K mg (hidT s₁.heap H) callerA [] s₁ H := ⟨rfl, hM, fun b o e => of_hidT e, Nat.le_of_eq (hidT_size _ _), trivial, fun b hb => absurd (show b ∈ ([] : List Addr) from hb) (by simp), hok, .of_eq hg⟩
    have sp1 : spV (ctx P w K mg) 1 0 spLaw [.ref a] H (fun v _ => v = .bl true) (fun _ _ _ => False) :=
      ⟨fun b => ∃ u, H b = some u, [.src 0 a], fun d => d = .bl true, fun _ => False, rfl, fun b h => h, .cons (.src (k := 0) (show ScriptAt K H a from hS)) .nil, ⟨a, rfl, rfl⟩,
        fun _ v d F' H' _ hd e => by subst e; exact hd.bl_eq, fun k z => (nomatch z), fun cls dx F' H' y _ _ z => z⟩
    refine codeAny_mono ((F _ hKb (nsK hns)).run callerA [] s₁ H ⟨[.ref a], []⟩ [.ref a] [.ref a] _ _ hr rfl e0 (hbind s₁ (.ref a)) (.cons rfl .nil) sp1) fun r s' h => ?_
    cases r with
    | error e =>
      obtain ⟨_, _, _, _, _, _, _, _, _, _, _, _, z⟩ := (show L2.CX P w [] H s₁ (fun _ _ _ => False) e s' from h)
      exact z.elim
    | ok fl =>
      cases fl with
      | next => exact False.elim h
      | brk => exact False.elim h
      | cont => exact False.elim h
      | ret u =>
        obtain ⟨v, H', os, bare, un, hok', r', q⟩ := h
        have q' : v = .bl true := q
        subst q'
        obtain rfl : u = Value.bool true := r'
        refine ⟨rfl, OldK.of_keep fun b o e => ?_, os, bare⟩
        cases q : H b with
        | none => exact un.keep b o e q (by intro z; exact absurd (show b ∈ ([] : List Addr) from z) (by simp)) (by simp)
        | some u =>
          obtain ⟨rfl, rfl⟩ := hA b u q
          obtain ⟨e2, _⟩ := hok' b _ (un.frzs b _ _ q)
          rw [e] at ha
          cases ha
          exact e2
  cases hk : K.lookup a with
  | some o =>
    have e := KX a o hk
    rw [ha] at e
    cases e
    exact core (fun _ => none) (fun b u z => nomatch z) ⟨ns, hl, .inr fun H' => .inr ⟨_, vs.toArray, _, hk, rfl, rfl, rfl, by rw [List.size_toArray, lenV]; exact hlz, by simpa using rv⟩⟩ (fun b u z => nomatch z) fun z => absurd rfl z
  | none =>
    refine core (fun b => if b = a then some (.frz { cls := .type "list", data := .seq vs.toArray } (.lst (ns.map V.int))) else none) (fun b u z => ?_) ⟨ns, hl, .inl ⟨_, if_pos rfl⟩⟩ (fun b u z => ?_) fun _ => hk
    · by_cases hb : b = a
      · have z' := (if_pos hb).symm.trans z
        exact ⟨hb, (Option.some.inj z').symm⟩
      · have z' := (if_neg hb).symm.trans z
        cases z'
    · by_cases hb : b = a
      · have z' := (if_pos hb).symm.trans z
        cases z'
        subst hb
        exact ⟨ha, by rw [List.length_map]; exact hlz, vs, _, rv, ha⟩
      · have z' := (if_neg hb).symm.trans z
        cases z'
/-- the goal that k_head leaves -/
theorem walk_L3 {l : PySem.W.OpenLaw} {k : Nat} {q : Program} {loose : List Str} {XP : (Str → Option Value) → Heap → Prop} {YP : World → Heap → Prop} {d : DefRec} {K : Params → PySem.W.Frag} {x : Str}
    (hn : l.most = some 63) (hdf : d.params.defaults = []) (hr : Room k callerA) (hY : ∀ (w : World) (h : Heap), YP w h → (K w.params).In h)
    (F : ∀ (w : World) (mg : Str → Option Value) (fa : Addr) (h : Heap), (K w.params).In h → h.Ns mainGlobals mg → mg d.name = some (.ref fa) →
      ∃ fd : FuncData, (∀ (s : Shared) (u : Value), BindsTo s fd ⟨[u], []⟩ [(x, u)]) ∧ ∀ base : Heap, (K w.params).In base → base.Ns mainGlobals mg → FnG l.prog w (K w.params) mg base k fa fd [x] (spV (ctx l.prog w (K w.params) mg) 1 0 spLaw)) :
    PySem.W.WalkO q loose XP YP l.row.toRowW d [] (fun f vs => PySem.call f vs) := by
  refine Att.attach_call hn hdf fun w s₀ s₁ mg mb fa o pm cd doc a vs ns G Y ho hd hcd hmg hobj hints hlen hg => ?_
  have KX := hY w _ Y
  obtain ⟨fd, hb, hF⟩ := F w mg fa _ KX G.T.g hmg
  exact law_end KX G.T.g G.T.b G.T.builtins G.T.nolimit hg hobj hints hlen hr hF hb
end L3

/-! L3w: rules to reckon with words. -/
namespace L3
open PySem PySem.Spec PyProof.Rows L2

theorem bneF {b : Bool} : (b != false) = b := by cases b <;> rfl
theorem bneT {b : Bool} : (b != true) = !b := by cases b <;> rfl
theorem wTup_cons {i : Nat} {is : List Nat} {d : T} {ds : List T} {ρ : Rho} {R : Rho → Prop} : wTup (i :: is) (d :: ds) ρ R = wTup is ds (ρ.set i (.sh d)) R :=
  propext ⟨fun ⟨_, _, e, h⟩ => by cases e; exact h, fun h => ⟨d, ds, rfl, h⟩⟩
theorem wTup_nil {ρ : Rho} {R : Rho → Prop} : wTup [] [] ρ R = R ρ := propext ⟨fun h => h.2, fun h => ⟨rfl, h⟩⟩
theorem okE_int {i j : Int} : okE (.int i) (.int j) = true := rfl
theorem okE_str {x y : Str} : okE (.str x) (.str y) = true := rfl
theorem okE_non {d : T} (h : okB d = true) : okE .non d = true := by cases d <;> exact h
theorem okB_int {i : Int} : okB (.int i) = true := rfl
theorem okB_non : okB .non = true := rfl
theorem okB_bl {b : Bool} : okB (.bl b) = true := rfl
theorem okB_lst {xs : List T} (h : ∀ x ∈ xs, okD 59 x = true) : okB (.lst xs) = true := List.all_eq_true.mpr h
theorem okB_tup {xs : List T} (h : ∀ x ∈ xs, okD 59 x = true) : okB (.tup xs) = true := List.all_eq_true.mpr h
theorem eqT_int {i j : Int} : eqT (.int i) (.int j) = decide (i = j) := by
  unfold eqT toPy
  first | rfl | simp [PyData.eqv]
theorem eqT_non : eqT .non .non = true := by
  unfold eqT toPy
  first | rfl | simp [PyData.eqv]
theorem eqT_tup {xs ys : List T} : eqT (.tup xs) (.tup ys) = PyData.eqvAll (toPys xs) (toPys ys) := by
  unfold eqT
  rw [toPy, toPy]
  first | rfl | simp [PyData.eqv]
/-- a comprehension whose clause and value are told by p and f -/
theorem wLc_map {g : WG} {wt : WT} {we : WE} {ρ0 : Rho} {Q : List T → Prop} {p : T → Bool} {f : T → T} : ∀ (ds acc : List T), acc.length + ds.length < sizeLine →
    (∀ d ∈ ds, ∀ (K : T → Prop) (K' : Prop) (N : Ex → Prop), (p d = true → K (f d)) → (p d = false → K') → g d ρ0 fun ρ1 => wt ρ1 (fun b => if b = true then we ρ1 K NoEx else K') N) →
    Q (acc ++ (ds.filter p).map f) → wLc g wt we ρ0 Q ds acc
  | [], acc, _, _, q => by simpa [wLc] using q
  | d :: ds, acc, hl, h, q => by
    rw [List.length_cons] at hl
    unfold wLc
    refine h d List.mem_cons_self _ _ _ (fun e => ⟨by omega, ?_⟩) fun e => ?_
    · refine wLc_map ds (acc ++ [f d]) (by rw [List.length_append]; simp; omega) (fun d' hd' => h d' (List.mem_cons_of_mem _ hd')) ?_
      rw [List.filter_cons_of_pos e, List.map_cons] at q
      simpa using q
    · refine wLc_map ds acc (by omega) (fun d' hd' => h d' (List.mem_cons_of_mem _ hd')) ?_
      rw [List.filter_cons_of_neg (by simp [e])] at q
      exact q
theorem wFor_inv {g : WG} {wb : WS} {D : Dv} (I : Nat → Rho → Prop) : ∀ {ds : List T} {ρ : Rho}, I 0 ρ →
    (∀ i d ρ (K : Rho → Prop), ds[i]? = some d → I i ρ → (∀ ρ', I (i + 1) ρ' → K ρ') → g d ρ fun ρ1 => wb ρ1 { D with nx := K, ct := K, bk := D.nx }) → (∀ ρ, I ds.length ρ → D.nx ρ) → wFor g wb D ds ρ := by
  intro ds
  induction ds generalizing I with
  | nil => intro ρ h0 _ hf; exact hf ρ h0
  | cons d ds ih =>
    intro ρ h0 hs hf
    unfold wFor
    exact hs 0 d ρ _ rfl h0 fun ρ' h1 => ih (fun i => I (i + 1)) h1 (fun i d' ρ2 K e => hs (i + 1) d' ρ2 K (by simpa using e)) fun ρ2 h2 => hf ρ2 h2
theorem frz_nil {ρ : Rho} : frz ρ [] = ρ := rfl
theorem wWhile_inv {wt : WT} {wb : WS} {D : Dv} (I : Nat → Rho → Prop) {m : Nat} {ρ : Rho} (h0 : I m ρ)
    (hs : ∀ m ρ (K : Rho → Prop), I m ρ → (∀ m' ρ', m' < m → I m' ρ' → K ρ') → wt ρ (fun k => if k = true then wb ρ { D with nx := K, ct := K, bk := D.nx } else D.nx ρ) (D.ex ρ)) : ∃ n, wWhile [] wt wb D n ρ := by
  have key : ∀ n m ρ, m < n → I m ρ → wWhile [] wt wb D n ρ := by
    intro n
    induction n with
    | zero => intro m ρ h; omega
    | succ n ih =>
      intro m ρ hm hi
      unfold wWhile
      exact hs m ρ _ hi fun m' ρ' l hi' => ih m' ρ' (by omega) hi'
  exact ⟨m + 1, key _ m ρ (Nat.lt_succ_self m) h0⟩
/-- a comprehension over the trees of xs -/
theorem wLc_over {α : Type} {f0 : α → T} {p : α → Bool} {F : α → T} {g : WG} {wt : WT} {we : WE} {ρ0 : Rho} {Q : List T → Prop} : ∀ (xs : List α) (acc : List T), acc.length + xs.length < sizeLine →
    (∀ x ∈ xs, ∀ (K : T → Prop) (K' : Prop) (N : Ex → Prop), (p x = true → K (F x)) → (p x = false → K') → g (f0 x) ρ0 fun ρ1 => wt ρ1 (fun b => if b = true then we ρ1 K NoEx else K') N) →
    Q (acc ++ (xs.filter p).map F) → wLc g wt we ρ0 Q (xs.map f0) acc
  | [], acc, _, _, q => by simpa [wLc] using q
  | x :: xs, acc, hl, h, q => by
    rw [List.length_cons] at hl
    rw [List.map_cons]
    unfold wLc
    refine h x List.mem_cons_self _ _ _ (fun e => ⟨by omega, ?_⟩) fun e => ?_
    · refine wLc_over xs (acc ++ [F x]) (by rw [List.length_append]; simp; omega) (fun d' hd' => h d' (List.mem_cons_of_mem _ hd')) ?_
      rw [List.filter_cons_of_pos e, List.map_cons] at q
      simpa using q
    · refine wLc_over xs acc (by omega) (fun d' hd' => h d' (List.mem_cons_of_mem _ hd')) ?_
      rw [List.filter_cons_of_neg (by simp [e])] at q
      exact q
/-- .. without a clause -/
theorem wLc_each {α : Type} {f0 : α → T} {F : α → T} {g : WG} {wt : WT} {we : WE} {ρ0 : Rho} {Q : List T → Prop} (xs : List α) (hl : xs.length < sizeLine)
    (h : ∀ x ∈ xs, ∀ (K : T → Prop) (K' : Prop) (N : Ex → Prop), K (F x) → g (f0 x) ρ0 fun ρ1 => wt ρ1 (fun b => if b = true then we ρ1 K NoEx else K') N) (q : Q (xs.map F)) : wLc g wt we ρ0 Q (xs.map f0) [] :=
  wLc_over (p := fun _ => true) (F := F) xs [] (by simpa using hl) (fun x hx K K' N k _ => h x hx K K' N (k rfl)) (by rw [List.filter_eq_self.mpr fun _ _ => rfl]; exact q)
theorem rangeT_at {lo : Int} {n i : Nat} {d : T} (h : (rangeT lo n)[i]? = some d) : i < n ∧ d = .int (lo + (i : Int)) := by
  unfold rangeT at h
  rw [List.getElem?_map] at h
  obtain ⟨j, hj, rfl⟩ := Option.map_eq_some_iff.mp h
  have hl := (List.getElem?_eq_some_iff.mp hj).1
  rw [List.length_range] at hl
  rw [List.getElem?_range hl] at hj
  cases hj
  exact ⟨hl, rfl⟩
theorem rangeT_len {lo : Int} {n : Nat} : (rangeT lo n).length = n := by simp [rangeT]
end L3

/-! Rt: points as rationals. -/
namespace L3
open PySem PySem.Spec PyProof.Rows L2

/-- the pair of a rational -/
def rT (r : Rat) : T := .tup [.int r.num, .int r.den]
theorem rT_mk {p q : Int} (h : 0 < q) : rT (mkRat p q.toNat) = .tup [.int (p / ((p.natAbs.gcd q.natAbs : Nat) : Int)), .int (q / ((p.natAbs.gcd q.natAbs : Nat) : Int))] := by
  have hq : q.toNat ≠ 0 := by omega
  have e : q.natAbs = q.toNat := by omega
  have e2 : (q.toNat : Int) = q := by omega
  unfold rT
  rw [Rat.num_mkRat, Rat.den_mkRat, if_neg hq, if_neg hq, Nat.gcd_comm, e]
  congr 3
  rw [Int.natCast_ediv, e2, Nat.gcd_comm]
theorem rT_shift {r : Rat} {k : Int} : rT (r + (k : Rat)) = .tup [.int (r.num + k * r.den), .int r.den] := by
  have h : r + (k : Rat) = ⟨r.num + k * r.den, r.den, r.den_nz, by
      have := r.reduced
      unfold Nat.Coprime at *
      have e : ∀ x : Int, x.natAbs.gcd r.den = Int.gcd x (r.den : Int) := fun x => rfl
      rw [← this, e, e]
      simp⟩ := by
    rw [Rat.mk_eq_mkRat, Rat.add_def']
    simp
  rw [h]
  rfl
theorem rT_int {i : Int} : rT (i : Rat) = .tup [.int i, .int 1] := rfl
theorem rT_inj {r s : Rat} (h : rT r = rT s) : r = s := by
  unfold rT at h
  simp only [T.tup.injEq, List.cons.injEq, T.int.injEq, and_true] at h
  exact Rat.ext h.1 (by omega)
theorem eqT_rT {r s : Rat} : eqT (rT r) (rT s) = decide (r = s) := by
  unfold eqT rT
  simp only [toPy, toPys, PyData.eqv, PyData.eqvAll, Bool.and_true]
  rw [Bool.eq_iff_iff]
  simp only [Bool.and_eq_true, beq_iff_eq, decide_eq_true_eq]
  refine ⟨fun h => Rat.ext h.1 (by omega), fun h => by rw [h]; exact ⟨rfl, rfl⟩⟩
theorem okD_rT {n : Nat} {r : Rat} : okD (n + 1) (rT r) = true := by simp [okD, rT]
theorem okB_rT {r : Rat} : okB (rT r) = true := okD_rT
theorem okB_rTs {rs : List Rat} : okB (.lst (rs.map rT)) = true := okB_lst fun x hx => by
  obtain ⟨r, _, rfl⟩ := List.mem_map.mp hx
  exact okD_rT
theorem okB_rTt {rs : List Rat} : okB (.tup (rs.map rT)) = true := okB_tup fun x hx => by
  obtain ⟨r, _, rfl⟩ := List.mem_map.mp hx
  exact okD_rT
theorem okE_rT {r s : Rat} : okE (rT r) (rT s) = true := okE_of okB_rT okB_rT
theorem okE_rTs {r s : List Rat} : okE (.lst (r.map rT)) (.lst (s.map rT)) = true := okE_of okB_rTs okB_rTs
theorem okE_rTt {r s : List Rat} : okE (.tup (r.map rT)) (.tup (s.map rT)) = true := okE_of okB_rTt okB_rTt
theorem okE_nil {r : List Rat} : okE (.tup (r.map rT)) (.tup []) = true := okE_of okB_rTt rfl
theorem eqvAll_map {α : Type} [DecidableEq α] {f : α → T} (h : ∀ a b, eqT (f a) (f b) = decide (a = b)) : ∀ xs ys : List α, PyData.eqvAll (toPys (xs.map f)) (toPys (ys.map f)) = decide (xs = ys)
  | [], [] => rfl
  | x :: xs, [] => by simp [toPys, PyData.eqvAll]
  | [], y :: ys => by simp [toPys, PyData.eqvAll]
  | x :: xs, y :: ys => by
    simp only [List.map_cons, toPys, PyData.eqvAll]
    rw [eqvAll_map h xs ys, show PyData.eqv (toPy (f x)) (toPy (f y)) = decide (x = y) from h x y]
    rw [Bool.eq_iff_iff]
    simp
theorem eqT_rTs {rs ss : List Rat} : eqT (.lst (rs.map rT)) (.lst (ss.map rT)) = decide (rs = ss) := by
  unfold eqT
  simp only [toPy, PyData.eqv]
  exact eqvAll_map (fun _ _ => eqT_rT) rs ss
theorem inT_rTs {r : Rat} {rs : List Rat} : inT (rT r) (rs.map rT) = decide (r ∈ rs) := by
  unfold inT
  rw [List.any_map, Bool.eq_iff_iff, List.any_eq_true]
  simp only [Function.comp, eqT_rT, decide_eq_true_eq]
  exact ⟨fun ⟨x, h, e⟩ => e ▸ h, fun h => ⟨r, h, rfl⟩⟩
/-- bounds -/
def bd (k : Nat) (r : Rat) : Prop := r.num.natAbs < 2 ^ k ∧ r.den < 2 ^ k
theorem bd.mono {j k : Nat} {r : Rat} (h : bd j r) (l : j ≤ k) : bd k r :=
  ⟨Nat.lt_of_lt_of_le h.1 (Nat.pow_le_pow_right (by decide) l), Nat.lt_of_lt_of_le h.2 (Nat.pow_le_pow_right (by decide) l)⟩
theorem bd_mk {k : Nat} {p : Int} {q : Nat} (hp : p.natAbs < 2 ^ k) (hq : q < 2 ^ k) (h : q ≠ 0) : bd k (mkRat p q) := by
  refine ⟨?_, ?_⟩
  · rw [Rat.num_mkRat, if_neg h]
    refine Nat.lt_of_le_of_lt ?_ hp
    rw [Int.natAbs_ediv_of_dvd (Int.ofNat_dvd_left.mpr (Nat.gcd_dvd_right _ _))]
    exact Nat.div_le_self _ _
  · rw [Rat.den_mkRat, if_neg h]
    exact Nat.lt_of_le_of_lt (Nat.div_le_self _ _) hq
theorem bd_add {k : Nat} {r s : Rat} (hr : bd k r) (hs : bd k s) : bd (k + k + 1) (r + s) := by
  rw [Rat.add_def']
  have h1 := Nat.mul_lt_mul'' hr.1 hs.2
  have h2 := Nat.mul_lt_mul'' hs.1 hr.2
  have h3 := Nat.mul_lt_mul'' hr.2 hs.2
  rw [← Nat.pow_add] at h1 h2 h3
  have e : 2 ^ (k + k + 1) = 2 ^ (k + k) + 2 ^ (k + k) := by rw [Nat.pow_succ]; omega
  refine bd_mk ?_ (by omega) (Nat.mul_ne_zero r.den_nz s.den_nz)
  have a1 := Int.natAbs_mul r.num s.den
  have a2 := Int.natAbs_mul s.num r.den
  simp only [Int.natAbs_natCast] at a1 a2
  have := Int.natAbs_add_le (r.num * s.den) (s.num * r.den)
  omega
theorem bd_neg {k : Nat} {r : Rat} (hr : bd k r) : bd k (-r) := ⟨by rw [Rat.neg_num, Int.natAbs_neg]; exact hr.1, hr.2⟩
theorem bd_sub {k : Nat} {r s : Rat} (hr : bd k r) (hs : bd k s) : bd (k + k + 1) (r - s) := by
  rw [Rat.sub_eq_add_neg]; exact bd_add hr (bd_neg hs)
theorem bd_mul {k : Nat} {r s : Rat} (hr : bd k r) (hs : bd k s) : bd (k + k) (r * s) := by
  rw [Rat.mul_def']
  have h1 := Nat.mul_lt_mul'' hr.1 hs.1
  have h3 := Nat.mul_lt_mul'' hr.2 hs.2
  rw [← Nat.pow_add] at h1 h3
  exact bd_mk (by rw [Int.natAbs_mul]; exact h1) h3 (Nat.mul_ne_zero r.den_nz s.den_nz)
theorem bd_int {k : Nat} {i : Int} (h : i.natAbs < 2 ^ k) (hk : 0 < k) : bd k (i : Rat) := ⟨h, by
  show 1 < 2 ^ k
  exact Nat.one_lt_two_pow (by omega)⟩
theorem bd.cmul {k : Nat} {i j : Int} (hi : i.natAbs < 2 ^ k) (hj : j.natAbs < 2 ^ k) (h0 : 0 < k) (hk : k ≤ 500000) : CMulW i j := wide_mul hi hj h0 h0 (by omega)
/-- the text of a list of points is there -/
theorem rp_rT {n k : Nat} {r : Rat} (h : bd k r) (h0 : 0 < k) (hk : k ≤ 1920) : rpD (n + 1) (rT r) = true := by
  have l1 := PySem.Flt.log2_lt_of h0 h.1
  have l2 := PySem.Flt.log2_lt_of h0 h.2
  simp only [rT, rpD, List.all_cons, List.all_nil, Bool.and_true, Bool.and_eq_true]
  constructor
  · cases n <;> exact decide_eq_true (by omega)
  · cases n <;> exact decide_eq_true (by rw [Int.natAbs_natCast]; omega)
theorem sz_rTs : ∀ rs : List Rat, szTs (rs.map rT) = 3 * rs.length
  | [] => rfl
  | r :: rs => by
    rw [List.map_cons, szTs, sz_rTs rs, List.length_cons]
    show (1 + (1 + (1 + 0))) + _ = _
    omega
theorem rpOk_rTs {k : Nat} {rs : List Rat} (h : ∀ r ∈ rs, bd k r) (h0 : 0 < k) (hk : k ≤ 1920) (hl : rs.length ≤ 2000) : rpOk (.lst (rs.map rT)) := by
  refine ⟨List.all_eq_true.mpr fun x hx => ?_, ?_⟩
  · obtain ⟨r, hr, rfl⟩ := List.mem_map.mp hx
    exact rp_rT (h r hr) h0 hk
  · show 1 + szTs (rs.map rT) ≤ 8000
    rw [sz_rTs]; omega
theorem at0 {x y : T} : atI [x, y] 0 = some x := rfl
theorem at1 {x y : T} : atI [x, y] 1 = some y := rfl
theorem bd_pos {r : Rat} : (0 : Int) < (r.den : Int) := by
  have := r.den_nz
  omega
theorem wCall_of {G : Gt} {f : Str} {i : FnInfo} (h : G f = some i) {ds : List T} {Q : T → Prop} {Ev : Ex → Prop} : wCall G f ds Q Ev = (ds.length = i.n ∧ i.sp ds Q Ev) := by
  unfold wCall
  rw [h]
theorem wCallF_of {G : Gt} {f : Str} {i : FnInfo} (h : G f = some i) {ds : List T} {Q : T → Prop} {Ev : Ex → Prop} : wCallF G f ds Q Ev = (i.fr = 1 ∧ ds.length = i.n ∧ i.sp ds Q Ev) := by
  unfold wCallF
  rw [h]
theorem natAbs_mul_lt {a b : Int} {j k : Nat} (ha : a.natAbs < 2 ^ j) (hb : b.natAbs < 2 ^ k) : (a * b).natAbs < 2 ^ (j + k) := wide_lt ha hb
theorem natAbs_add_lt {a b : Int} {k : Nat} (ha : a.natAbs < 2 ^ k) (hb : b.natAbs < 2 ^ k) : (a + b).natAbs < 2 ^ (k + 1) := by
  have := Int.natAbs_add_le a b
  rw [Nat.pow_succ]
  omega
theorem natAbs_sub_lt {a b : Int} {k : Nat} (ha : a.natAbs < 2 ^ k) (hb : b.natAbs < 2 ^ k) : (a - b).natAbs < 2 ^ (k + 1) := by
  rw [Int.sub_eq_add_neg]
  exact natAbs_add_lt ha (by rw [Int.natAbs_neg]; exact hb)
theorem two_le {j k n : Nat} (h : n < 2 ^ j) (l : j ≤ k) : n < 2 ^ k := Nat.lt_of_lt_of_le h (Nat.pow_le_pow_right (by decide) l)
theorem bd.d {k : Nat} {r : Rat} (h : bd k r) : (r.den : Int).natAbs < 2 ^ k := by rw [Int.natAbs_natCast]; exact h.2
theorem rat_num_den (r : Rat) : r = (r.num : Rat) / (r.den : Rat) := by
  conv => lhs; rw [← Rat.mkRat_self r, Rat.mkRat_eq_div]
theorem den_ne (r : Rat) : (r.den : Rat) ≠ 0 := by
  have := r.den_nz
  simpa using this
theorem mk_int {p q : Int} (h : 0 < q) : mkRat p q.toNat = (p : Rat) / (q : Rat) := by
  rw [Rat.mkRat_eq_div]
  congr 1
  have : ((q.toNat : Int) : Rat) = (q : Rat) := by rw [show (q.toNat : Int) = q by omega]
  rw [← this]
  rfl
end L3

namespace LawP
open PySem PySem.Spec PyProof.Rows L2 L3
def topS (i : Nat) : Stmt := PySem.Challenge.pw_gapwise_k02_gaps_and_spread.main.body.getD i (.Pass ⟨0, 0, 0, 0⟩)
--BEGIN SRC
abbrev s_open : Stmt := topS 13
abbrev s_pick : Stmt := topS 14
theorem sc_open : FnScope ["_law_script", "_law_mixed", "_law_cell", "_law_cells"] ["_law_script"] (defScope s_open) := ⟨rfl, rfl, rfl, by decide +kernel, rfl, by decide +kernel, by decide +kernel⟩
theorem sc_pick : FnScope ["_law_source", "_law_most", "_law_cells", "_law_left", "_law_turn", "_law_mixed"] ["_law_source", "_law_most"] (defScope s_pick) := ⟨rfl, rfl, rfl, by decide +kernel, rfl, by decide +kernel, by decide +kernel⟩
section
variable {P : Program} {w : World} {K : PySem.W.Frag} {mg : Str → Option Value} {base : Heap}
theorem ok_pick0 {f : Addr} {fd : FuncData} {k : Nat} (F : Fun K "_law_pick" "_law_pick" s_pick f fd) (ml : mg "len" = none) (mi : mg "int" = none) : FnG P w K mg base (k + 1) f fd ["_law_source", "_law_most"] spPick0 := by
  refine okG F sc_pick (fun vs H Q E ⟨a, c, n, e, _⟩ => by rw [e]; rfl) fun cdv A outer s H vs Q E hr hgd h => ?_
  obtain ⟨a, c, n, rfl, hn, hS, q⟩ := h
  have hu : (A.deeper (envOfC "_law_pick" (defScope s_pick) s.heap.objs.size f cdv)).units + 1 < cLine := by have := hr.un; omega
  refine ⟨_, pss_cons (ps_if (pt_cmpR op_lt (pv 1) pe_int (nomark _)) (pss_one (ps_ret pe_int)) pss_nil)
    (pss_cons (ps_set (i := 2) sc_pick.nd rfl (.inl rfl) (pe_dget hu (pv 0) pe_str (fun _ _ => rfl)))
    (pss_cons (ps_while (passes_of rfl) (PW.pt (pw_and (pt_cmpR op_lt (pe_dget hu (pv 0) pe_str (fun _ _ => rfl)) pe_int (nomark _)) (pw_and1 (pt_cmpR op_gt (pe_callB call_len_seq (by rfl) ml PySem.boot_len (pa_cons (pv 2) pa_nil)) pe_int (nomark _)))))
      (pss_one (ps_dput hu (pv 0) pe_str (pe_bm0 PySem.F.plainAttrs_list PySem.F.slot_list_pop PySem.F.type_list_pop mt_pop (pv 2)) rfl)))
    (pss_cons (ps_set (i := 3) sc_pick.nd rfl (.inl rfl) (pe_dget hu (pv 0) pe_str (fun _ _ => rfl)))
    (pss_cons (ps_if (pt_cmpR op_gt (pv 3) pe_int (nomark _))
        (pss_cons (ps_dput hu (pv 0) pe_str (pe_op op_fdivW (pv 3) (pv 1)) rfl)
        (pss_one (ps_ret (pe_op op_mod (pe_callTy call_int1 (by rfl) mi (boot_of (b := .int)) (pa_cons (pv 3) pa_nil)) (pv 1))))) pss_nil)
    (pss_cons (ps_dput hu (pv 0) pe_str (pe_op op_add (pe_dget hu (pv 0) pe_str (fun _ _ => rfl)) pe_int) rfl)
    (pss_cons (ps_set (i := 4) sc_pick.nd rfl (.inl rfl) (pe_dget hu (pv 0) pe_str (fun _ _ => rfl)))
    (pss_cons (ps_set (i := 5) sc_pick.nd rfl (.inl rfl) (pe_op op_mod (pe_callTy call_int1 (by rfl) mi (boot_of (b := .int)) (pa_cons (pe_op op_add (pe_dget hu (pv 0) pe_str (fun _ _ => rfl)) (pe_op op_mulS (pv 4) pe_int)) pa_nil)) pe_int))
    (pss_cons (ps_set (i := 5) sc_pick.nd rfl (.inl rfl) (pe_op op_mod (pe_callTy call_int1 (by rfl) mi (boot_of (b := .int)) (pa_cons (pe_op op_add (pe_op op_mulS (pv 5) (pv 5)) (pe_op op_mulS (pv 4) pe_int)) pa_nil)) pe_int))
    (pss_one (ps_ret (pe_op op_mod (pe_callTy call_int1 (by rfl) mi (boot_of (b := .int)) (pa_cons (pe_op op_fdivW (pv 5) pe_int) pa_nil)) (pv 1)))))))))))), ?_⟩
  refine ⟨.int n, rfl, n, 2, rfl, rfl, _, rfl, ite2 (fun e => ?_) (fun e => ?_)⟩
  · exact q 0 H hS (Int.le_refl 0) (.inr rfl)
  · have hn2 : ¬ n < 2 := fun z => e (decide_eq_true z)
    have hn0 : (0 : Int) < n := by omega
    have hdv : ∀ i : Int, CDivW i n := fun i => wide_div hn0 (b := 60) (by omega) (by decide) (by decide)
    obtain ⟨hca, ⟨l, m, t, hA⟩, ⟨cs, hcs⟩, _⟩ := id hS
    refine ⟨.ref a, rfl, a, .ref c, rfl, .inl ⟨_, kCells, .inl hA, rfl, rfl⟩, ?_⟩
    refine ⟨fun j σ' H' => σ' = [some (.ref a), some (.int n), some (.ref c), none, none, none] ∧ SrcAt H a c H' ∧ ∃ cs : List Int, H' c = some (.lst (cs.map V.int)) ∧ cs.length = j, ⟨_, rfl, hS, cs, hcs, rfl⟩, ?_⟩
    rintro j σ' H' ⟨rfl, hS', cs', hcs', rfl⟩
    obtain ⟨_, ⟨l', m', t', hA'⟩, _, _⟩ := id hS'
    refine ⟨.ref a, rfl, a, .int l', rfl, .inl ⟨_, kLeft, .inl hA', rfl, get_left.symm⟩, l', 2, rfl, rfl, _, rfl, ite2 (fun e1 => ⟨.ref c, rfl, c, cs'.map V.int, rfl, .inl (.of hcs'), _, 0, rfl, rfl, _, rfl, ite2 (fun e2 => ?body) (fun e2 => ?exit1)⟩) (fun e1 => ite2 (fun z => nomatch z) fun _ => ?exit2)⟩
    case body =>
      have hl : (0 : Int) < ((cs'.map V.int).length : Nat) := of_decide_eq_true e2
      rw [List.length_map] at hl
      obtain ⟨z, hz⟩ : ∃ z, cs'[cs'.length - 1]? = some z := ⟨_, List.getElem?_eq_getElem (by omega)⟩
      refine ⟨fun σ2 H2 => σ2 = [some (.ref a), some (.int n), some (.ref c), none, none, none] ∧ SrcAt H a c H2 ∧ ∃ ds : List Int, H2 c = some (.lst (ds.map V.int)) ∧ ds.length < cs'.length, fun σ2 H2 ⟨e3, h3, ds, h4, h5⟩ => ⟨_, h5, e3, h3, ds, h4, rfl⟩, ?_⟩
      refine ⟨.ref c, rfl, .inl ⟨rfl, _, .of hcs'⟩, c, _, .int z, rfl, rfl, hcs', by rw [List.length_map, List.getElem?_map, hz]; rfl, .ref a, rfl, a, _, rfl, .k (k := kLeft) (kvs := kvS c l' m' t') (by rw [upd_ne hca.symm]; exact hA') (show 4 < sizeLine by decide), ?_⟩
      rw [put_left, ← List.map_dropLast]
      exact ⟨rfl, (hS'.putC _).putA _ _ _, cs'.dropLast, by rw [upd_ne hca]; exact upd_same, by rw [List.length_dropLast]; omega⟩
    all_goals
      refine ⟨.ref a, rfl, a, .int l', rfl, .inl ⟨_, kLeft, .inl hA', rfl, get_left.symm⟩, ?_⟩
      refine ⟨.int l', rfl, l', 1, rfl, rfl, _, rfl, ite2 (fun e => ?_) (fun e => ?_)⟩
      · refine ⟨.int l', rfl, .int n, rfl, l', n, rfl, rfl, hdv l', .ref a, rfl, a, _, rfl, .k (k := kLeft) hA' (show 4 < sizeLine by decide), ?_⟩
        rw [put_left]
        exact ⟨.int l', rfl, .inl ⟨l', rfl, .int n, rfl, l', n, rfl, rfl, hn0, q _ _ (hS'.putA _ _ _) (Int.emod_nonneg _ (by omega)) (.inl (Int.emod_lt_of_pos _ hn0))⟩⟩
      · refine ⟨.ref a, rfl, a, .int t', rfl, .inl ⟨_, kTurn, .inl hA', rfl, get_turn.symm⟩, t', 1, rfl, rfl, .ref a, rfl, a, _, rfl, .k (k := kTurn) hA' (show 4 < sizeLine by decide), ?_⟩
        rw [put_turn]
        have hS2 := hS'.putA l' m' (t' + 1)
        have hA2 : (upd H' a (.dK (kvS c l' m' (t' + 1)))) a = some (.dK (kvS c l' m' (t' + 1))) := upd_same
        refine ⟨.ref a, rfl, a, .int (t' + 1), rfl, .inl ⟨_, kTurn, .inl hA2, rfl, get_turn.symm⟩, ?_⟩
        refine ⟨.ref a, rfl, a, .int m', rfl, .inl ⟨_, kMixed, .inl hA2, rfl, get_mixed.symm⟩, .int (t' + 1), rfl, t' + 1, 104729, rfl, rfl, .of_right (by decide), m', _, rfl, rfl, .inl ⟨_, rfl, _, 998244353, rfl, rfl, (show (0 : Int) < 998244353 by decide), ?_⟩⟩
        have hx0 : 0 ≤ (m' + (t' + 1) * 104729) % 998244353 := by exact Int.emod_nonneg _ (by decide)
        have hx1 : (m' + (t' + 1) * 104729) % 998244353 < 998244353 := by exact Int.emod_lt_of_pos _ (by decide)
        refine ⟨_, rfl, _, rfl, _, _, rfl, rfl, .of_left (PySem.intBits_le_64 (by omega) (by omega)), .int (t' + 1), rfl, t' + 1, 17, rfl, rfl, .of_right (by decide), _, _, rfl, rfl, .inl ⟨_, rfl, _, 2147483647, rfl, rfl, (show (0 : Int) < 2147483647 by decide), ?_⟩⟩
        exact ⟨_, rfl, _, 16, rfl, rfl, wide_div (by decide) (b := 5) (by decide) (by decide) (by decide), .inl ⟨_, rfl, .int n, rfl, _, n, rfl, rfl, hn0, q _ _ hS2 (Int.emod_nonneg _ (by omega)) (.inl (Int.emod_lt_of_pos _ hn0))⟩⟩
theorem ok_open0 {f : Addr} {fd : FuncData} {k : Nat} (F : Fun K "_law_open_cells" "_law_open_cells" s_open f fd) (ma : mg "abs" = none) (mi : mg "int" = none) : FnG P w K mg base (k + 1) f fd ["_law_script"] (spOpen0 K) := by
  refine okG F sc_open (fun vs H Q E ⟨a, n, e, _⟩ => by rw [e]; rfl) fun cdv A outer s H vs Q E hr hgd h => ?_
  obtain ⟨a0, ns, rfl, hS, hl, q⟩ := h
  refine ⟨_, pss_cons (ps_set (i := 1) sc_open.nd rfl (.inl rfl) pe_int)
    (pss_cons (ps_for (passes_of rfl) rfl (pi_list (pv 0)) (pg_name (i := 2) sc_open.nd rfl (.inl rfl))
      (pss_one (ps_set (i := 1) sc_open.nd rfl (.inl rfl) (pe_op op_mod (pe_callTy call_int1 (by rfl) mi (boot_of (b := .int)) (pa_cons (pe_op op_add (pe_op op_add (pe_op op_mulS (pv 1) pe_int) (pe_op op_mulS (pv 2) pe_int)) pe_int) pa_nil)) pe_int))))
    (pss_cons (ps_setLc (i := 3) (own := [("_law_cell", 2)]) rfl sc_open.nd rfl rfl (by exact sw_true rfl rfl (by decide +kernel) (by decide +kernel)) (pi_list (pv 0)) (blkOk_by (N := ["_law_script", "_law_mixed", "_law_cell", "_law_cells"]) (sc := defScope s_open) (by decide +kernel))
        (fun s H C cl fp => pg_name (i := 2) sc_open.nd rfl (.inl rfl)) (fun s H C cl fp => pts_nil) (fun s H C cl fp => pe_callB call_abs (by rfl) ma (boot_of (b := .abs)) (pa_cons (pv 2) pa_nil)))
    (pss_one (ps_ret (pe_disp (pps_cons pe_str (pe_revL (pv 3)) (pps_cons pe_str pe_int (pps_cons pe_str (pv 1) (pps_cons pe_str pe_int pps_nil)))) rfl rfl (by simp) (by decide)))))), ?_⟩
  refine ⟨.ref a0, rfl, a0, rfl, ⟨_, hS⟩, ?_⟩
  refine for_it (walk_list (K := K) (a := a0) (xs := ns.map V.int)) (fun i σ' H' => ∃ m y, σ' = [some (.ref a0), some (.int m), y, none] ∧ H' = H) ⟨11, none, rfl, rfl⟩ (fun i σ' H' _ ⟨_, _, _, e⟩ => by rw [e]; exact hS) (fun i x σ' H1 H2 hi p y => ?_) fun σ' H' p => ?_
  · obtain ⟨m, y0, rfl, rfl⟩ := p
    obtain ⟨rfl, hx⟩ := y
    rw [List.getElem?_map] at hx
    obtain ⟨z, hz, rfl⟩ := Option.map_eq_some_iff.mp hx
    exact ⟨.int m, rfl, m, 69069, rfl, rfl, .of_right (by decide), .int z, rfl, z, 31, rfl, rfl, .of_right (by decide), _, _, rfl, rfl, _, 5, rfl, rfl, .inl ⟨_, rfl, _, 2147483629, rfl, rfl, (show (0 : Int) < 2147483629 by decide), _, _, rfl, rfl⟩⟩
  · obtain ⟨m, y0, rfl, rfl⟩ := p
    refine ⟨.ref a0, rfl, a0, rfl, ⟨_, hS⟩, fun Dd hD => ?_⟩
    refine lc_it (walk_list (K := K) (a := a0) (xs := ns.map V.int)) (fun i H1 => ∃ cs : List Int, cs.length = i ∧ H1 = upd H' Dd (.lst (cs.map V.int))) ⟨[], rfl, rfl⟩ (fun i H1 _ ⟨cs, _, e⟩ => by rw [e]; exact (same_new hD).seq hS) (fun i x H1 H2 hi p y => ?_) fun H1 p => ?_
    · obtain ⟨cs, hcl, rfl⟩ := p
      obtain ⟨rfl, hx⟩ := y
      rw [List.getElem?_map] at hx
      obtain ⟨z, hz, rfl⟩ := Option.map_eq_some_iff.mp hx
      rw [List.length_map] at hi
      refine ⟨rfl, ?_⟩
      unfold tYes
      dsimp only
      rw [if_pos rfl]
      refine ⟨.int z, rfl, z, rfl, _, upd_same, ?_, cs ++ [if z < 0 then -z else z], by rw [List.length_append, hcl]; rfl, ?_⟩
      · rw [List.length_map]
        exact small1000 (by omega)
      · rw [upd_upd, List.map_append]
        rfl
    · obtain ⟨cs, _, rfl⟩ := p
      refine fun p hp => ⟨.ref Dd, rfl, Dd, cs.map V.int, rfl, .of (by rw [upd_ne (none_upd hp).1.symm]; exact upd_same), fun c hc => ⟨.int m, rfl, by rw [upd_ne (none_upd hc).1.symm]; exact upd_same, kvS c 1 m 0, rfl, (show 4 ≤ 15 by decide), ?_⟩⟩
      rw [merge_kvS]
      have h1 := none_upd hp
      have h2 := none_upd hc
      have h3 := none_upd h2.2
      refine q p c _ h2.1 h1.2 h3.2 ⟨1, m, 0, upd_same⟩ ⟨cs.reverse, by rw [upd_ne h2.1, upd_same, List.map_reverse]⟩ fun b x e => ?_
      rw [upd_ne (ne_of_none e h1.2), upd_ne (ne_of_none e h3.2), upd_ne (ne_of_none e h1.2)]
      exact same_new hD b x e
end
--END SRC
abbrev s_l_point : Stmt := topS 15
theorem sc_l_point : FnScope ["_law_p", "_law_q", "_law_a", "_law_b"] ["_law_p", "_law_q"] (defScope s_l_point) := ⟨rfl, rfl, rfl, by decide +kernel, rfl, by decide +kernel, by decide +kernel⟩
def c_l_point : Sc := { N := ["_law_p", "_law_q", "_law_a", "_law_b"], sc := defScope s_l_point, osc := defScope s_l_point, bn := ["int", "abs"], fns := [], frs := [], gcd := false }
def e_l_point_1 : E := (.cmp .gt (.var 3) (.int 0))
def b_l_point_2 : Ss := (.cons (.par [] [2, 3] (.sh (.var 3) (.sh (.bin .mod (.bf .int (.cons (.var 2) .nil)) (.var 3)) .nil))) .nil)
def b_l_point : Ss := (.cons (.par [] [2, 3] (.sh (.bf .abs (.cons (.var 0) .nil)) (.sh (.var 1) .nil))) (.cons (.whl [] e_l_point_1 b_l_point_2) (.cons (.ret [] (.tup (.cons (.bin .fdv (.var 0) (.var 2)) (.cons (.bin .fdv (.var 1) (.var 2)) .nil)))) .nil)))
theorem t_l_point {G : Gt} : Text G s_l_point ["_law_p", "_law_q", "_law_a", "_law_b"] ["_law_p", "_law_q"] c_l_point b_l_point := ⟨sc_l_point, rfl, rfl, rfl, by decide +kernel⟩
abbrev s_l_draw_points : Stmt := topS 18
theorem sc_l_draw_points : FnScope ["_law_source", "_law_many", "_law_found", "_law_here", "_law_lap", "_law_q"] ["_law_source", "_law_many"] (defScope s_l_draw_points) := ⟨rfl, rfl, rfl, by decide +kernel, rfl, by decide +kernel, by decide +kernel⟩
def c_l_draw_points : Sc := { N := ["_law_source", "_law_many", "_law_found", "_law_here", "_law_lap", "_law_q"], sc := defScope s_l_draw_points, osc := defScope s_l_draw_points, bn := ["range"], fns := ["_law_pick", "_law_point"], frs := [], gcd := false }
def b_l_draw_points_1 : Ss := (.cons (.set [] 5 (.bin .add (.int 1) (.call "_law_pick" (.cons (.var 0) (.cons (.int 3) .nil))))) (.cons (.app [] 2 (.call "_law_point" (.cons (.bin .add (.bin .mul (.var 3) (.var 5)) (.call "_law_pick" (.cons (.var 0) (.cons (.var 5) .nil)))) (.cons (.var 5) .nil)))) (.cons (.set [] 3 (.bin .add (.bin .add (.var 3) (.int 1)) (.call "_law_pick" (.cons (.var 0) (.cons (.int 2) .nil))))) .nil)))
def b_l_draw_points : Ss := (.cons (.par [] [2, 3] (.own (.lst .nil) (.sh (.bin .sub (.call "_law_pick" (.cons (.var 0) (.cons (.int 5) .nil))) (.int 2)) .nil))) (.cons (.for [] (.name 4) (.rng1 (.var 1)) b_l_draw_points_1) (.cons (.retOwn 2) .nil)))
theorem t_l_draw_points {G : Gt} : Text G s_l_draw_points ["_law_source", "_law_many", "_law_found", "_law_here", "_law_lap", "_law_q"] ["_law_source", "_law_many"] c_l_draw_points b_l_draw_points := ⟨sc_l_draw_points, rfl, rfl, rfl, by decide +kernel⟩
abbrev s_stepped : Stmt := topS 9
theorem sc_stepped : FnScope ["point", "steps"] ["point", "steps"] (defScope s_stepped) := ⟨rfl, rfl, rfl, by decide +kernel, rfl, by decide +kernel, by decide +kernel⟩
def c_stepped : Sc := { N := ["point", "steps"], sc := defScope s_stepped, osc := defScope s_stepped, bn := [], fns := [], frs := [], gcd := false }
def b_stepped : Ss := (.cons (.ret [] (.tup (.cons (.bin .add (.ix (.var 0) (.int 0)) (.bin .mul (.var 1) (.ix (.var 0) (.int 1)))) (.cons (.ix (.var 0) (.int 1)) .nil)))) .nil)
theorem t_stepped {G : Gt} : Text G s_stepped ["point", "steps"] ["point", "steps"] c_stepped b_stepped := ⟨sc_stepped, rfl, rfl, rfl, by decide +kernel⟩
abbrev s_make_point : Stmt := topS 6
theorem sc_make_point : FnScope ["p", "q", "common"] ["p", "q"] (defScope s_make_point) := ⟨rfl, rfl, rfl, by decide +kernel, rfl, by decide +kernel, by decide +kernel⟩
def c_make_point : Sc := { N := ["p", "q", "common"], sc := defScope s_make_point, osc := defScope s_make_point, bn := [], fns := [], frs := [], gcd := true }
def b_make_point : Ss := (.cons (.ite [] (.cmp .eq (.var 1) (.int 0)) (.cons .never .nil) .nil) (.cons (.set [] 2 (.ite (.cmp .gt (.var 1) (.int 0)) (.gcd (.var 0) (.var 1)) (.neg (.gcd (.var 0) (.var 1))))) (.cons (.ret [] (.tup (.cons (.bin .fdv (.var 0) (.var 2)) (.cons (.bin .fdv (.var 1) (.var 2)) .nil)))) .nil)))
theorem t_make_point {G : Gt} : Text G s_make_point ["p", "q", "common"] ["p", "q"] c_make_point b_make_point := ⟨sc_make_point, rfl, rfl, rfl, by decide +kernel⟩
abbrev s_between : Stmt := topS 10
theorem sc_between : FnScope ["low", "high", "i", "parts", "top"] ["low", "high", "i", "parts"] (defScope s_between) := ⟨rfl, rfl, rfl, by decide +kernel, rfl, by decide +kernel, by decide +kernel⟩
def c_between : Sc := { N := ["low", "high", "i", "parts", "top"], sc := defScope s_between, osc := defScope s_between, bn := [], fns := ["make_point"], frs := [], gcd := false }
def b_between : Ss := (.cons (.set [] 4 (.bin .add (.bin .mul (.bin .mul (.ix (.var 0) (.int 0)) (.ix (.var 1) (.int 1))) (.bin .sub (.var 3) (.var 2))) (.bin .mul (.bin .mul (.ix (.var 1) (.int 0)) (.ix (.var 0) (.int 1))) (.var 2)))) (.cons (.ret [] (.call "make_point" (.cons (.var 4) (.cons (.bin .mul (.bin .mul (.ix (.var 0) (.int 1)) (.ix (.var 1) (.int 1))) (.var 3)) .nil)))) .nil))
theorem t_between {G : Gt} : Text G s_between ["low", "high", "i", "parts", "top"] ["low", "high", "i", "parts"] c_between b_between := ⟨sc_between, rfl, rfl, rfl, by decide +kernel⟩
abbrev s_spread : Stmt := topS 11
theorem sc_spread : FnScope ["points", "gap", "n", "i"] ["points", "gap", "n"] (defScope s_spread) := ⟨rfl, rfl, rfl, by decide +kernel, rfl, by decide +kernel, by decide +kernel⟩
def c_spread : Sc := { N := ["points", "gap", "n", "i"], sc := defScope s_spread, osc := defScope s_spread, bn := ["range", "len"], fns := ["between", "stepped"], frs := [], gcd := false }
def e_spread_1 : E := (.call "between" (.cons (.ix (.var 0) (.bin .sub (.var 1) (.int 1))) (.cons (.ix (.var 0) (.var 1)) (.cons (.bin .add (.var 3) (.int 1)) (.cons (.bin .add (.var 2) (.int 1)) .nil)))))
def e_spread_2 : E := (.call "stepped" (.cons (.ix (.var 0) (.neg (.int 1))) (.cons (.bin .add (.var 3) (.int 1)) .nil)))
def e_spread_3 : E := (.call "stepped" (.cons (.ix (.var 0) (.int 0)) (.cons (.bin .sub (.var 3) (.var 2)) .nil)))
def e_spread_4 : E := (.tup (.cons (.var 3) (.cons (.int 1) .nil)))
def b_spread : Ss := (.cons (.ite [] (.cmp .eq (.var 0) (.tup .nil)) (.cons (.retF [] (.lc e_spread_4 (.name 3) (.rng1 (.var 2)) .nil [("i", 3)])) .nil) .nil) (.cons (.ite [] (.cmp .eq (.var 1) (.int 0)) (.cons (.retF [] (.lc e_spread_3 (.name 3) (.rng1 (.var 2)) .nil [("i", 3)])) .nil) .nil) (.cons (.ite [] (.cmp .eq (.var 1) (.bf .len (.cons (.var 0) .nil))) (.cons (.retF [] (.lc e_spread_2 (.name 3) (.rng1 (.var 2)) .nil [("i", 3)])) .nil) .nil) (.cons (.retF [] (.lc e_spread_1 (.name 3) (.rng1 (.var 2)) .nil [("i", 3)])) .nil))))
theorem t_spread {G : Gt} : Text G s_spread ["points", "gap", "n", "i"] ["points", "gap", "n"] c_spread b_spread := ⟨sc_spread, rfl, rfl, rfl, by decide +kernel⟩
abbrev s_l_spread : Stmt := topS 17
theorem sc_l_spread : FnScope ["_law_points", "_law_gap", "_law_n", "_law_i", "_law_p", "_law_q", "_law_a", "_law_b", "_law_c", "_law_d"] ["_law_points", "_law_gap", "_law_n"] (defScope s_l_spread) := ⟨rfl, rfl, rfl, by decide +kernel, rfl, by decide +kernel, by decide +kernel⟩
def c_l_spread : Sc := { N := ["_law_points", "_law_gap", "_law_n", "_law_i", "_law_p", "_law_q", "_law_a", "_law_b", "_law_c", "_law_d"], sc := defScope s_l_spread, osc := defScope s_l_spread, bn := ["range", "len"], fns := ["_law_point"], frs := [], gcd := false }
def e_l_spread_1 : E := (.call "_law_point" (.cons (.bin .add (.bin .mul (.bin .mul (.var 6) (.var 9)) (.bin .add (.var 2) (.int 1))) (.bin .mul (.bin .sub (.bin .mul (.var 8) (.var 7)) (.bin .mul (.var 6) (.var 9))) (.bin .add (.var 3) (.int 1)))) (.cons (.bin .mul (.bin .mul (.var 7) (.var 9)) (.bin .add (.var 2) (.int 1))) .nil)))
def e_l_spread_2 : E := (.call "_law_point" (.cons (.bin .add (.var 4) (.bin .mul (.bin .add (.var 3) (.int 1)) (.var 5))) (.cons (.var 5) .nil)))
def e_l_spread_3 : E := (.call "_law_point" (.cons (.bin .sub (.var 4) (.bin .mul (.bin .sub (.var 2) (.var 3)) (.var 5))) (.cons (.var 5) .nil)))
def e_l_spread_4 : E := (.tup (.cons (.var 3) (.cons (.int 1) .nil)))
def b_l_spread : Ss := (.cons (.ite [] (.cmp .eq (.bf .len (.cons (.var 0) .nil)) (.int 0)) (.cons (.ret [] (.lc e_l_spread_4 (.name 3) (.rng1 (.var 2)) .nil [("_law_i", 3)])) .nil) .nil) (.cons (.ite [] (.cmp .eq (.var 1) (.int 0)) (.cons (.asg [] (.tup [4, 5]) (.ix (.var 0) (.int 0))) (.cons (.ret [] (.lc e_l_spread_3 (.name 3) (.rng1 (.var 2)) .nil [("_law_i", 3)])) .nil)) .nil) (.cons (.ite [] (.cmp .eq (.var 1) (.bf .len (.cons (.var 0) .nil))) (.cons (.asg [] (.tup [4, 5]) (.ix (.var 0) (.bin .sub (.var 1) (.int 1)))) (.cons (.ret [] (.lc e_l_spread_2 (.name 3) (.rng1 (.var 2)) .nil [("_law_i", 3)])) .nil)) .nil) (.cons (.asg [] (.tup [6, 7]) (.ix (.var 0) (.bin .sub (.var 1) (.int 1)))) (.cons (.asg [] (.tup [8, 9]) (.ix (.var 0) (.var 1))) (.cons (.ret [] (.lc e_l_spread_1 (.name 3) (.rng1 (.var 2)) .nil [("_law_i", 3)])) .nil))))))
theorem t_l_spread {G : Gt} : Text G s_l_spread ["_law_points", "_law_gap", "_law_n", "_law_i", "_law_p", "_law_q", "_law_a", "_law_b", "_law_c", "_law_d"] ["_law_points", "_law_gap", "_law_n"] c_l_spread b_l_spread := ⟨sc_l_spread, rfl, rfl, rfl, by decide +kernel⟩
abbrev s_l_apart : Stmt := topS 19
theorem sc_l_apart : FnScope ["_law_one", "_law_other"] ["_law_one", "_law_other"] (defScope s_l_apart) := ⟨rfl, rfl, rfl, by decide +kernel, rfl, by decide +kernel, by decide +kernel⟩
def c_l_apart : Sc := { N := ["_law_one", "_law_other"], sc := defScope s_l_apart, osc := defScope s_l_apart, bn := [], fns := ["_law_point"], frs := [], gcd := false }
def b_l_apart : Ss := (.cons (.ret [] (.call "_law_point" (.cons (.bin .sub (.bin .mul (.ix (.var 0) (.int 0)) (.ix (.var 1) (.int 1))) (.bin .mul (.ix (.var 1) (.int 0)) (.ix (.var 0) (.int 1)))) (.cons (.bin .mul (.ix (.var 0) (.int 1)) (.ix (.var 1) (.int 1))) .nil)))) .nil)
theorem t_l_apart {G : Gt} : Text G s_l_apart ["_law_one", "_law_other"] ["_law_one", "_law_other"] c_l_apart b_l_apart := ⟨sc_l_apart, rfl, rfl, rfl, by decide +kernel⟩
abbrev s_l_is_even : Stmt := topS 20
theorem sc_l_is_even : FnScope ["_law_points", "_law_gap", "_law_found", "_law_low", "_law_row", "_law_steps", "_law_k", "_law_step"] ["_law_points", "_law_gap", "_law_found"] (defScope s_l_is_even) := ⟨rfl, rfl, rfl, by decide +kernel, rfl, by decide +kernel, by decide +kernel⟩
def c_l_is_even : Sc := { N := ["_law_points", "_law_gap", "_law_found", "_law_low", "_law_row", "_law_steps", "_law_k", "_law_step"], sc := defScope s_l_is_even, osc := defScope s_l_is_even, bn := ["all", "len", "range", "list"], fns := ["_law_apart"], frs := [], gcd := false }
def e_l_is_even_1 : E := (.cmp .eq (.var 7) (.tup (.cons (.int 1) (.cons (.int 1) .nil))))
def e_l_is_even_2 : E := (.cmp .eq (.var 7) (.ix (.var 5) (.int 0)))
def e_l_is_even_3 : E := (.call "_law_apart" (.cons (.ix (.var 4) (.bin .add (.var 6) (.int 1))) (.cons (.ix (.var 4) (.var 6)) .nil)))
def b_l_is_even : Ss := (.cons (.set [] 3 (.ite (.cmp .gt (.var 1) (.int 0)) (.bf .list (.cons (.sl (.var 0) (.at (.bin .sub (.var 1) (.int 1))) (.at (.var 1))) .nil)) (.lst .nil))) (.cons (.set [] 4 (.bin .add (.bin .add (.var 3) (.var 2)) (.bf .list (.cons (.sl (.var 0) (.at (.var 1)) (.at (.bin .add (.var 1) (.int 1)))) .nil)))) (.cons (.set [] 5 (.lc e_l_is_even_3 (.name 6) (.rng1 (.bin .sub (.bf .len (.cons (.var 4) .nil)) (.int 1))) .nil [("_law_k", 6)])) (.cons (.ite [] (.and (.cons (.cmp .gt (.var 1) (.int 0)) (.cons (.cmp .lt (.var 1) (.bf .len (.cons (.var 0) .nil))) .nil))) (.cons (.ret [] (.bf .all (.cons (.lc e_l_is_even_2 (.name 7) (.seq (.var 5)) .nil [("_law_step", 7)]) .nil))) .nil) .nil) (.cons (.ret [] (.bf .all (.cons (.lc e_l_is_even_1 (.name 7) (.seq (.var 5)) .nil [("_law_step", 7)]) .nil))) .nil)))))
theorem t_l_is_even {G : Gt} : Text G s_l_is_even ["_law_points", "_law_gap", "_law_found", "_law_low", "_law_row", "_law_steps", "_law_k", "_law_step"] ["_law_points", "_law_gap", "_law_found"] c_l_is_even b_l_is_even := ⟨sc_l_is_even, rfl, rfl, rfl, by decide +kernel⟩
abbrev s_is_before : Stmt := topS 7
theorem sc_is_before : FnScope ["one", "other"] ["one", "other"] (defScope s_is_before) := ⟨rfl, rfl, rfl, by decide +kernel, rfl, by decide +kernel, by decide +kernel⟩
def c_is_before : Sc := { N := ["one", "other"], sc := defScope s_is_before, osc := defScope s_is_before, bn := [], fns := [], frs := [], gcd := false }
def b_is_before : Ss := (.cons (.ret [] (.cmp .lt (.bin .mul (.ix (.var 0) (.int 0)) (.ix (.var 1) (.int 1))) (.bin .mul (.ix (.var 1) (.int 0)) (.ix (.var 0) (.int 1))))) .nil)
theorem t_is_before {G : Gt} : Text G s_is_before ["one", "other"] ["one", "other"] c_is_before b_is_before := ⟨sc_is_before, rfl, rfl, rfl, by decide +kernel⟩
abbrev s_gap_of : Stmt := topS 8
theorem sc_gap_of : FnScope ["points", "point", "one"] ["points", "point"] (defScope s_gap_of) := ⟨rfl, rfl, rfl, by decide +kernel, rfl, by decide +kernel, by decide +kernel⟩
def c_gap_of : Sc := { N := ["points", "point", "one"], sc := defScope s_gap_of, osc := defScope s_gap_of, bn := ["len"], fns := ["is_before"], frs := [], gcd := false }
def e_gap_of_1 : E := (.var 2)
def es_gap_of_2 : Es := (.cons (.call "is_before" (.cons (.var 2) (.cons (.var 1) .nil))) .nil)
def b_gap_of : Ss := (.cons (.ite [] (.cmp .in_ (.var 1) (.var 0)) (.cons (.ret [] .non) .nil) .nil) (.cons (.ret [] (.bf .len (.cons (.lc e_gap_of_1 (.name 2) (.seq (.var 0)) es_gap_of_2 [("one", 2)]) .nil))) .nil))
theorem t_gap_of {G : Gt} : Text G s_gap_of ["points", "point", "one"] ["points", "point"] c_gap_of b_gap_of := ⟨sc_gap_of, rfl, rfl, rfl, by decide +kernel⟩
abbrev s_l_less : Stmt := topS 16
theorem sc_l_less : FnScope ["_law_one", "_law_other"] ["_law_one", "_law_other"] (defScope s_l_less) := ⟨rfl, rfl, rfl, by decide +kernel, rfl, by decide +kernel, by decide +kernel⟩
def c_l_less : Sc := { N := ["_law_one", "_law_other"], sc := defScope s_l_less, osc := defScope s_l_less, bn := [], fns := [], frs := [], gcd := false }
def b_l_less : Ss := (.cons (.ret [] (.cmp .lt (.bin .mul (.ix (.var 0) (.int 0)) (.ix (.var 1) (.int 1))) (.bin .mul (.ix (.var 1) (.int 0)) (.ix (.var 0) (.int 1))))) .nil)
theorem t_l_less {G : Gt} : Text G s_l_less ["_law_one", "_law_other"] ["_law_one", "_law_other"] c_l_less b_l_less := ⟨sc_l_less, rfl, rfl, rfl, by decide +kernel⟩
abbrev s_l_gap_due : Stmt := topS 21
theorem sc_l_gap_due : FnScope ["_law_points", "_law_point_here", "_law_place", "_law_one"] ["_law_points", "_law_point_here"] (defScope s_l_gap_due) := ⟨rfl, rfl, rfl, by decide +kernel, rfl, by decide +kernel, by decide +kernel⟩
def c_l_gap_due : Sc := { N := ["_law_points", "_law_point_here", "_law_place", "_law_one"], sc := defScope s_l_gap_due, osc := defScope s_l_gap_due, bn := ["len", "enumerate"], fns := ["_law_less"], frs := [], gcd := false }
def b_l_gap_due_1 : Ss := (.cons (.ite [] (.cmp .eq (.var 3) (.var 1)) (.cons (.ret [] .non) .nil) .nil) (.cons (.ite [] (.call "_law_less" (.cons (.var 1) (.cons (.var 3) .nil))) (.cons (.ret [] (.var 2)) .nil) .nil) .nil))
def b_l_gap_due : Ss := (.cons (.for [] (.tup [2, 3]) (.enum (.var 0)) b_l_gap_due_1) (.cons (.ret [] (.bf .len (.cons (.var 0) .nil))) .nil))
theorem t_l_gap_due {G : Gt} : Text G s_l_gap_due ["_law_points", "_law_point_here", "_law_place", "_law_one"] ["_law_points", "_law_point_here"] c_l_gap_due b_l_gap_due := ⟨sc_l_gap_due, rfl, rfl, rfl, by decide +kernel⟩
abbrev s_law : Stmt := topS 22
theorem sc_law : FnScope ["_law_script", "_law_source", "_law_lap", "_law_points", "_law_gap", "_law_n", "_law_found", "_law_one"] ["_law_script"] (defScope s_law) := ⟨rfl, rfl, rfl, by decide +kernel, rfl, by decide +kernel, by decide +kernel⟩
def c_law : Sc := { N := ["_law_script", "_law_source", "_law_lap", "_law_points", "_law_gap", "_law_n", "_law_found", "_law_one"], sc := defScope s_law, osc := defScope s_law, bn := ["range", "repr", "len", "isinstance", "list", "tuple"], fns := ["_law_draw_points", "gap_of", "_law_gap_due", "spread", "_law_spread", "_law_is_even", "_law_pick", "_law_open_cells"], frs := ["spread"], gcd := false }
def b_law_1 : Ss := (.cons (.ite [] (.cmp .ne (.bf .repr (.cons (.call "gap_of" (.cons (.var 3) (.cons (.var 7) .nil))) .nil)) (.bf .repr (.cons (.call "_law_gap_due" (.cons (.var 3) (.cons (.var 7) .nil))) .nil))) (.cons (.ret [] (.bl false)) .nil) .nil) .nil)
def e_law_2 : E := (.call "gap_of" (.cons (.var 3) (.cons (.var 7) .nil)))
def e_law_3 : E := (.call "gap_of" (.cons (.var 3) (.cons (.var 7) .nil)))
def b_law_4 : Ss := (.cons (.set [] 5 (.call "_law_pick" (.cons (.var 1) (.cons (.int 7) .nil)))) (.cons (.setF [] 6 (.call "spread" (.cons (.var 3) (.cons (.var 4) (.cons (.var 5) .nil))))) (.cons (.ite [6] (.or (.cons (.not (.isi (.var 6) .list)) (.cons (.cmp .ne (.bf .repr (.cons (.var 6) .nil)) (.bf .repr (.cons (.call "_law_spread" (.cons (.var 3) (.cons (.var 4) (.cons (.var 5) .nil)))) .nil))) (.cons (.cmp .ne (.bf .len (.cons (.var 6) .nil)) (.var 5)) .nil)))) (.cons (.ret [] (.bl false)) .nil) .nil) (.cons (.ite [6] (.or (.cons (.not (.call "_law_is_even" (.cons (.var 3) (.cons (.var 4) (.cons (.var 6) .nil))))) (.cons (.cmp .ne (.bf .repr (.cons (.lc e_law_3 (.name 7) (.seq (.var 6)) .nil [("_law_one", 7)]) .nil)) (.bf .repr (.cons (.bin .mul (.lst (.cons (.var 4) .nil)) (.var 5)) .nil))) .nil))) (.cons (.ret [] (.bl false)) .nil) .nil) (.cons (.app [] 6 (.str "more")) (.cons (.ite [] (.cmp .ne (.call "spread" (.cons (.var 3) (.cons (.var 4) (.cons (.var 5) .nil)))) (.call "_law_spread" (.cons (.var 3) (.cons (.var 4) (.cons (.var 5) .nil))))) (.cons (.ret [] (.bl false)) .nil) .nil) .nil))))))
def b_law_5 : Ss := (.cons (.set [] 3 (.bf .tuple (.cons (.call "_law_draw_points" (.cons (.var 1) (.cons (.call "_law_pick" (.cons (.var 1) (.cons (.int 5) .nil))) .nil))) .nil))) (.cons (.for [] (.name 4) (.rng1 (.bin .add (.bf .len (.cons (.var 3) .nil)) (.int 1))) b_law_4) (.cons (.ite [] (.cmp .ne (.lc e_law_2 (.name 7) (.seq (.var 3)) .nil [("_law_one", 7)]) (.bin .mul (.lst (.cons .non .nil)) (.bf .len (.cons (.var 3) .nil)))) (.cons (.ret [] (.bl false)) .nil) .nil) (.cons (.for [] (.name 7) (.seq (.bin .add (.call "_law_draw_points" (.cons (.var 1) (.cons (.int 4) .nil))) (.lst (.cons (.tup (.cons (.int 0) (.cons (.int 1) .nil))) (.cons (.tup (.cons (.neg (.int 30)) (.cons (.int 1) .nil))) (.cons (.tup (.cons (.int 30) (.cons (.int 1) .nil))) (.cons (.tup (.cons (.int 1) (.cons (.int 60) .nil))) .nil))))))) b_law_1) .nil))))
def b_law : Ss := (.cons (.set [] 1 (.call "_law_open_cells" (.cons (.var 0) .nil))) (.cons (.for [] (.name 2) (.rng1 (.int 3)) b_law_5) (.cons (.ret [] (.bl true)) .nil)))
theorem t_law {G : Gt} : Text G s_law ["_law_script", "_law_source", "_law_lap", "_law_points", "_law_gap", "_law_n", "_law_found", "_law_one"] ["_law_script"] c_law b_law := ⟨sc_law, rfl, rfl, rfl, by decide +kernel⟩

end LawP

namespace LawP
open PySem PySem.Spec PyProof.Rows L2 L3

/-! ### the defs' words -/
def sp_point : VSp := fun ds Q _ => ∃ p q : Int, ds = [.int p, .int q] ∧ 0 < q ∧ p.natAbs < 2 ^ 1000 ∧ q.natAbs < 2 ^ 1000 ∧ Q (rT (mkRat p q.toNat))
def sp_less : VSp := fun ds Q _ => ∃ r s : Rat, ds = [rT r, rT s] ∧ bd 1000 r ∧ bd 1000 s ∧ Q (.bl (decide (r < s)))
def sp_apart : VSp := fun ds Q _ => ∃ r s : Rat, ds = [rT r, rT s] ∧ bd 400 r ∧ bd 400 s ∧ Q (rT (r - s))
def sp_stepped : VSp := fun ds Q _ => ∃ (r : Rat) (k : Int), ds = [rT r, .int k] ∧ bd 100 r ∧ k.natAbs < 2 ^ 100 ∧ Q (rT (r + k))
def sp_between : VSp := fun ds Q _ => ∃ (r s : Rat) (i n : Int), ds = [rT r, rT s, .int i, .int n] ∧ bd 100 r ∧ bd 100 s ∧ 0 ≤ i ∧ i ≤ n ∧ 0 < n ∧ n < 2 ^ 100 ∧ Q (rT (r * (n - i) / n + s * i / n))
theorem ws_make_point {G : Gt} (ds : List T) (Q : T → Prop) (E : Ex → Prop) (h : sp_point ds Q E) : wSs G b_make_point (L3.startT ["p", "q", "common"] ds) (endsOf 0 Q E) := by
  obtain ⟨p, q, rfl, h0, h1, h2, h3⟩ := h
  simp only [b_make_point, wEq, eqT_int, wSs, wS, w, mk, bOf, wEs, wP, wI, wIfs, wAnd, wOr, rd, L3.startT, frz, frz1, List.foldl, List.map, List.length, endsOf, List.cons_append, List.nil_append, List.replicate, List.set, Co.w, Bo.w, Bf.w, wCmp, wGcd, wFdv, wNeg, wMul, wAdd, wSub, wMod, wPar, Ms.fl, wMs, setM, Tg.w, wTup_cons, wTup_nil, wLcE, wF, List.getElem?_cons_zero, List.getElem?_cons_succ, List.set_cons_zero, List.set_cons_succ, Nat.reduceSub, Nat.reduceAdd, List.length_cons, List.length_nil, List.map_cons, List.map_nil, List.foldl_nil, List.replicate_succ, List.replicate_zero, Nat.reduceEqDiff, if_false, if_true, T.bl.injEq, T.int.injEq, T.tup.injEq, T.lst.injEq, exists_eq_left', true_or, and_true, true_and, reduceCtorEq, reduceIte, decide_eq_true_eq, seqT, Option.some.injEq, wipeT, wRev, wSl, false_or, or_true, bneF, bneT, Int.toNat_natCast, okB_int, okB_non, okB_rT, okB_rTs, okB_rTt, ownL, wLt, wIn, inT_rTs, okE_int, okE_str, okE_rT, okE_rTs, okE_rTt, okE_nil, tyIs, wListF, wCatF, timesT]
  have hg : (0 : Int) < ((p.natAbs.gcd q.natAbs : Nat) : Int) := by
    have : 0 < p.natAbs.gcd q.natAbs := Nat.gcd_pos_of_pos_right _ (by omega)
    omega
  have hd : ∀ i : Int, CDivW i ((p.natAbs.gcd q.natAbs : Nat) : Int) := fun i => wide_div hg (b := 1000) (by
    rw [Int.natAbs_natCast]
    exact Nat.lt_of_le_of_lt (Nat.gcd_le_right _ (by omega)) h2) (by decide) (by decide)
  rw [if_neg (by omega), if_pos h0]
  refine ⟨hd _, hd _, by decide, ?_⟩
  rw [← rT_mk h0]
  exact h3
theorem ws_l_point {G : Gt} (ds : List T) (Q : T → Prop) (E : Ex → Prop) (h : sp_point ds Q E) : wSs G b_l_point (L3.startT ["_law_p", "_law_q", "_law_a", "_law_b"] ds) (endsOf 0 Q E) := by
  obtain ⟨p, q, rfl, h0, h1, h2, h3⟩ := h
  simp only [b_l_point, wSs, wS, w, mk, bOf, wEs, wP, wI, wIfs, wAnd, wOr, rd, L3.startT, frz, frz1, List.foldl, List.map, List.length, endsOf, List.cons_append, List.nil_append, List.replicate, List.set, Co.w, Bo.w, Bf.w, wCmp, wGcd, wFdv, wNeg, wMul, wAdd, wSub, wMod, wPar, Ms.fl, wMs, setM, Tg.w, wTup_cons, wTup_nil, wLcE, wF, List.getElem?_cons_zero, List.getElem?_cons_succ, List.set_cons_zero, List.set_cons_succ, Nat.reduceSub, Nat.reduceAdd, List.length_cons, List.length_nil, List.map_cons, List.map_nil, List.foldl_nil, List.replicate_succ, List.replicate_zero, Nat.reduceEqDiff, if_false, if_true, T.bl.injEq, T.int.injEq, T.tup.injEq, T.lst.injEq, exists_eq_left', true_or, and_true, true_and, reduceCtorEq, reduceIte, decide_eq_true_eq, seqT, Option.some.injEq, wipeT, wRev, wSl, false_or, or_true, bneF, bneT, Int.toNat_natCast, okB_int, okB_non, okB_rT, okB_rTs, okB_rTt, ownL, wLt, wIn, inT_rTs, okE_int, okE_str, okE_rT, okE_rTs, okE_rTt, okE_nil, tyIs, wListF, wCatF, timesT]
  have hg : (0 : Int) < ((p.natAbs.gcd q.natAbs : Nat) : Int) := by
    have : 0 < p.natAbs.gcd q.natAbs := Nat.gcd_pos_of_pos_right _ (by omega)
    omega
  have hd : ∀ i : Int, CDivW i ((p.natAbs.gcd q.natAbs : Nat) : Int) := fun i => wide_div hg (b := 1000) (by
    rw [Int.natAbs_natCast]
    exact Nat.lt_of_le_of_lt (Nat.gcd_le_right _ (by omega)) h2) (by decide) (by decide)
  have e1 : (if p < 0 then -p else p) = (p.natAbs : Int) := by split <;> omega
  refine wWhile_inv (fun m ρ => ∃ a b : Nat, ρ = [.sh (.int p), .sh (.int q), .sh (.int a), .sh (.int b)] ∧ m = b ∧ Nat.gcd a b = p.natAbs.gcd q.natAbs) (m := q.natAbs) ⟨p.natAbs, q.natAbs, by rw [e1]; congr; omega, rfl, rfl⟩ ?_
  rintro m ρ K ⟨a, b, rfl, rfl, hab⟩ hK
  simp only [e_l_point_1, b_l_point_2, wSs, wS, w, mk, bOf, wEs, wP, wI, wIfs, wAnd, wOr, rd, L3.startT, frz, frz1, List.foldl, List.map, List.length, endsOf, List.cons_append, List.nil_append, List.replicate, List.set, Co.w, Bo.w, Bf.w, wCmp, wGcd, wFdv, wNeg, wMul, wAdd, wSub, wMod, wPar, Ms.fl, wMs, setM, Tg.w, wTup_cons, wTup_nil, wLcE, wF, List.getElem?_cons_zero, List.getElem?_cons_succ, List.set_cons_zero, List.set_cons_succ, Nat.reduceSub, Nat.reduceAdd, List.length_cons, List.length_nil, List.map_cons, List.map_nil, List.foldl_nil, List.replicate_succ, List.replicate_zero, Nat.reduceEqDiff, if_false, if_true, T.bl.injEq, T.int.injEq, T.tup.injEq, T.lst.injEq, exists_eq_left', true_or, and_true, true_and, reduceCtorEq, reduceIte, decide_eq_true_eq, seqT, Option.some.injEq, wipeT, wRev, wSl, false_or, or_true, bneF, bneT, Int.toNat_natCast, okB_int, okB_non, okB_rT, okB_rTs, okB_rTt, ownL, wLt, wIn, inT_rTs, okE_int, okE_str, okE_rT, okE_rTs, okE_rTt, okE_nil, tyIs, wListF, wCatF, timesT]
  by_cases h0' : m = 0
  · subst h0'
    rw [if_neg (by simp)]
    rw [Nat.gcd_zero_right] at hab
    rw [hab]
    refine ⟨hd _, hd _, by decide, ?_⟩
    rw [← rT_mk h0]
    exact h3
  · rw [if_pos (by omega)]
    have hm : a % m < m := Nat.mod_lt _ (by omega)
    refine ⟨by omega, hK (a % m) _ hm ⟨m, a % m, ?_, rfl, ?_⟩⟩
    · rw [Int.natCast_emod]
    · rw [← hab, Nat.gcd_comm m, ← Nat.gcd_rec, Nat.gcd_comm]
theorem ws_stepped {G : Gt} (ds : List T) (Q : T → Prop) (E : Ex → Prop) (h : sp_stepped ds Q E) : wSs G b_stepped (L3.startT ["point", "steps"] ds) (endsOf 0 Q E) := by
  obtain ⟨r, k, rfl, h0, h1, h2⟩ := h
  simp only [b_stepped, wIx, rT, at0, at1, wSs, wS, w, mk, bOf, wEs, wP, wI, wIfs, wAnd, wOr, rd, L3.startT, frz, frz1, List.foldl, List.map, List.length, endsOf, List.cons_append, List.nil_append, List.replicate, List.set, Co.w, Bo.w, Bf.w, wCmp, wGcd, wFdv, wNeg, wMul, wAdd, wSub, wMod, wPar, Ms.fl, wMs, setM, Tg.w, wTup_cons, wTup_nil, wLcE, wF, List.getElem?_cons_zero, List.getElem?_cons_succ, List.set_cons_zero, List.set_cons_succ, Nat.reduceSub, Nat.reduceAdd, List.length_cons, List.length_nil, List.map_cons, List.map_nil, List.foldl_nil, List.replicate_succ, List.replicate_zero, Nat.reduceEqDiff, if_false, if_true, T.bl.injEq, T.int.injEq, T.tup.injEq, T.lst.injEq, exists_eq_left', true_or, and_true, true_and, reduceCtorEq, reduceIte, decide_eq_true_eq, seqT, Option.some.injEq, wipeT, wRev, wSl, false_or, or_true, bneF, bneT, Int.toNat_natCast, okB_int, okB_non, okB_rT, okB_rTs, okB_rTt, ownL, wLt, wIn, inT_rTs, okE_int, okE_str, okE_rT, okE_rTs, okE_rTt, okE_nil, tyIs, wListF, wCatF, timesT]
  rw [rT_shift] at h2
  exact ⟨bd.cmul (k := 100) h1 (by rw [Int.natAbs_natCast]; exact h0.2) (by decide) (by decide), by decide, h2⟩
theorem ws_is_before {G : Gt} (ds : List T) (Q : T → Prop) (E : Ex → Prop) (h : sp_less ds Q E) : wSs G b_is_before (L3.startT ["one", "other"] ds) (endsOf 0 Q E) := by
  obtain ⟨r, s, rfl, h0, h1, h2⟩ := h
  simp only [b_is_before, wIx, rT, at0, at1, wLt, wSs, wS, w, mk, bOf, wEs, wP, wI, wIfs, wAnd, wOr, rd, L3.startT, frz, frz1, List.foldl, List.map, List.length, endsOf, List.cons_append, List.nil_append, List.replicate, List.set, Co.w, Bo.w, Bf.w, wCmp, wGcd, wFdv, wNeg, wMul, wAdd, wSub, wMod, wPar, Ms.fl, wMs, setM, Tg.w, wTup_cons, wTup_nil, wLcE, wF, List.getElem?_cons_zero, List.getElem?_cons_succ, List.set_cons_zero, List.set_cons_succ, Nat.reduceSub, Nat.reduceAdd, List.length_cons, List.length_nil, List.map_cons, List.map_nil, List.foldl_nil, List.replicate_succ, List.replicate_zero, Nat.reduceEqDiff, if_false, if_true, T.bl.injEq, T.int.injEq, T.tup.injEq, T.lst.injEq, exists_eq_left', true_or, and_true, true_and, reduceCtorEq, reduceIte, decide_eq_true_eq, seqT, Option.some.injEq, wipeT, wRev, wSl, false_or, or_true, bneF, bneT, Int.toNat_natCast, okB_int, okB_non, okB_rT, okB_rTs, okB_rTt, ownL, wLt, wIn, inT_rTs, okE_int, okE_str, okE_rT, okE_rTs, okE_rTt, okE_nil, tyIs, wListF, wCatF, timesT]
  rw [show decide (r < s) = decide (r.num * (s.den : Int) < s.num * (r.den : Int)) from decide_eq_decide.mpr (Rat.lt_iff r s)] at h2
  exact ⟨bd.cmul (k := 1000) h0.1 h1.2 (by decide) (by decide), bd.cmul (k := 1000) h1.1 h0.2 (by decide) (by decide), h2⟩
theorem ws_l_less {G : Gt} (ds : List T) (Q : T → Prop) (E : Ex → Prop) (h : sp_less ds Q E) : wSs G b_l_less (L3.startT ["_law_one", "_law_other"] ds) (endsOf 0 Q E) := by
  obtain ⟨r, s, rfl, h0, h1, h2⟩ := h
  simp only [b_l_less, wIx, rT, at0, at1, wLt, wSs, wS, w, mk, bOf, wEs, wP, wI, wIfs, wAnd, wOr, rd, L3.startT, frz, frz1, List.foldl, List.map, List.length, endsOf, List.cons_append, List.nil_append, List.replicate, List.set, Co.w, Bo.w, Bf.w, wCmp, wGcd, wFdv, wNeg, wMul, wAdd, wSub, wMod, wPar, Ms.fl, wMs, setM, Tg.w, wTup_cons, wTup_nil, wLcE, wF, List.getElem?_cons_zero, List.getElem?_cons_succ, List.set_cons_zero, List.set_cons_succ, Nat.reduceSub, Nat.reduceAdd, List.length_cons, List.length_nil, List.map_cons, List.map_nil, List.foldl_nil, List.replicate_succ, List.replicate_zero, Nat.reduceEqDiff, if_false, if_true, T.bl.injEq, T.int.injEq, T.tup.injEq, T.lst.injEq, exists_eq_left', true_or, and_true, true_and, reduceCtorEq, reduceIte, decide_eq_true_eq, seqT, Option.some.injEq, wipeT, wRev, wSl, false_or, or_true, bneF, bneT, Int.toNat_natCast, okB_int, okB_non, okB_rT, okB_rTs, okB_rTt, ownL, wLt, wIn, inT_rTs, okE_int, okE_str, okE_rT, okE_rTs, okE_rTt, okE_nil, tyIs, wListF, wCatF, timesT]
  rw [show decide (r < s) = decide (r.num * (s.den : Int) < s.num * (r.den : Int)) from decide_eq_decide.mpr (Rat.lt_iff r s)] at h2
  exact ⟨bd.cmul (k := 1000) h0.1 h1.2 (by decide) (by decide), bd.cmul (k := 1000) h1.1 h0.2 (by decide) (by decide), h2⟩
theorem ws_l_apart {G : Gt} (hG : G "_law_point" = some ⟨2, 0, sp_point⟩) (ds : List T) (Q : T → Prop) (E : Ex → Prop) (h : sp_apart ds Q E) : wSs G b_l_apart (L3.startT ["_law_one", "_law_other"] ds) (endsOf 0 Q E) := by
  obtain ⟨r, s, rfl, h0, h1, h2⟩ := h
  simp only [b_l_apart, wIx, rT, at0, at1, wCall_of hG, wSs, wS, w, mk, bOf, wEs, wP, wI, wIfs, wAnd, wOr, rd, L3.startT, frz, frz1, List.foldl, List.map, List.length, endsOf, List.cons_append, List.nil_append, List.replicate, List.set, Co.w, Bo.w, Bf.w, wCmp, wGcd, wFdv, wNeg, wMul, wAdd, wSub, wMod, wPar, Ms.fl, wMs, setM, Tg.w, wTup_cons, wTup_nil, wLcE, wF, List.getElem?_cons_zero, List.getElem?_cons_succ, List.set_cons_zero, List.set_cons_succ, Nat.reduceSub, Nat.reduceAdd, List.length_cons, List.length_nil, List.map_cons, List.map_nil, List.foldl_nil, List.replicate_succ, List.replicate_zero, Nat.reduceEqDiff, if_false, if_true, T.bl.injEq, T.int.injEq, T.tup.injEq, T.lst.injEq, exists_eq_left', true_or, and_true, true_and, reduceCtorEq, reduceIte, decide_eq_true_eq, seqT, Option.some.injEq, wipeT, wRev, wSl, false_or, or_true, bneF, bneT, Int.toNat_natCast, okB_int, okB_non, okB_rT, okB_rTs, okB_rTt, ownL, wLt, wIn, inT_rTs, okE_int, okE_str, okE_rT, okE_rTs, okE_rTt, okE_nil, tyIs, wListF, wCatF, timesT]
  have hp : (0 : Int) < (r.den : Int) * (s.den : Int) := Int.mul_pos bd_pos bd_pos
  refine ⟨bd.cmul (k := 1000) (two_le h0.1 (by decide)) (two_le h1.d (by decide)) (by decide) (by decide), bd.cmul (k := 1000) (two_le h1.1 (by decide)) (two_le h0.d (by decide)) (by decide) (by decide), bd.cmul (k := 1000) (two_le h0.d (by decide)) (two_le h1.d (by decide)) (by decide) (by decide), _, _, rfl, hp, two_le (natAbs_sub_lt (natAbs_mul_lt h0.1 h1.d) (natAbs_mul_lt h1.1 h0.d)) (by decide), two_le (natAbs_mul_lt h0.d h1.d) (by decide), ?_⟩
  have e : mkRat (r.num * (s.den : Int) - s.num * (r.den : Int)) ((r.den : Int) * (s.den : Int)).toNat = r - s := by
    rw [Rat.sub_def']
    congr 1
  rw [e]
  exact h2
theorem ws_between {G : Gt} (hG : G "make_point" = some ⟨2, 0, sp_point⟩) (ds : List T) (Q : T → Prop) (E : Ex → Prop) (h : sp_between ds Q E) : wSs G b_between (L3.startT ["low", "high", "i", "parts", "top"] ds) (endsOf 0 Q E) := by
  obtain ⟨r, s, i, n, rfl, h0, h1, hi0, hi1, hn0, hn1, h2⟩ := h
  simp only [b_between, wIx, rT, at0, at1, wCall_of hG, wSs, wS, w, mk, bOf, wEs, wP, wI, wIfs, wAnd, wOr, rd, L3.startT, frz, frz1, List.foldl, List.map, List.length, endsOf, List.cons_append, List.nil_append, List.replicate, List.set, Co.w, Bo.w, Bf.w, wCmp, wGcd, wFdv, wNeg, wMul, wAdd, wSub, wMod, wPar, Ms.fl, wMs, setM, Tg.w, wTup_cons, wTup_nil, wLcE, wF, List.getElem?_cons_zero, List.getElem?_cons_succ, List.set_cons_zero, List.set_cons_succ, Nat.reduceSub, Nat.reduceAdd, List.length_cons, List.length_nil, List.map_cons, List.map_nil, List.foldl_nil, List.replicate_succ, List.replicate_zero, Nat.reduceEqDiff, if_false, if_true, T.bl.injEq, T.int.injEq, T.tup.injEq, T.lst.injEq, exists_eq_left', true_or, and_true, true_and, reduceCtorEq, reduceIte, decide_eq_true_eq, seqT, Option.some.injEq, wipeT, wRev, wSl, false_or, or_true, bneF, bneT, Int.toNat_natCast, okB_int, okB_non, okB_rT, okB_rTs, okB_rTt, ownL, wLt, wIn, inT_rTs, okE_int, okE_str, okE_rT, okE_rTs, okE_rTt, okE_nil, tyIs, wListF, wCatF, timesT]
  have a1 := natAbs_mul_lt h0.1 h1.d
  have a2 := natAbs_mul_lt h1.1 h0.d
  have a3 := natAbs_mul_lt h0.d h1.d
  have ni : i.natAbs < 2 ^ 200 := by omega
  have nn : n.natAbs < 2 ^ 200 := by omega
  have nm : (n - i).natAbs < 2 ^ 200 := by omega
  have hp : (0 : Int) < (r.den : Int) * (s.den : Int) * n := Int.mul_pos (Int.mul_pos bd_pos bd_pos) hn0
  have c : ∀ {x y : Int}, x.natAbs < 2 ^ 200 → y.natAbs < 2 ^ 200 → CMulW x y := fun hx hy => bd.cmul (k := 200) hx hy (by decide) (by decide)
  refine ⟨c (two_le h0.1 (by decide)) (two_le h1.d (by decide)), c (two_le a1 (by decide)) nm, c (two_le h1.1 (by decide)) (two_le h0.d (by decide)), c (two_le a2 (by decide)) ni, c (two_le h0.d (by decide)) (two_le h1.d (by decide)), c (two_le a3 (by decide)) nn, _, _, rfl, hp, two_le (natAbs_add_lt (natAbs_mul_lt a1 nm) (natAbs_mul_lt a2 ni)) (by decide), two_le (natAbs_mul_lt a3 nn) (by decide), ?_⟩
  have e : mkRat (r.num * (s.den : Int) * (n - i) + s.num * (r.den : Int) * i) ((r.den : Int) * (s.den : Int) * n).toNat = r * (n - i) / n + s * i / n := by
    rw [mk_int hp]
    have h3 := rat_num_den r
    have h4 := rat_num_den s
    have h5 := den_ne r
    have h6 := den_ne s
    have h7 : (n : Rat) ≠ 0 := by
      intro z
      have := Rat.intCast_eq_zero_iff.mp z
      omega
    push_cast
    generalize (r.num : Rat) = a at *
    generalize (s.num : Rat) = b at *
    have e1 : ((r.den : Int) : Rat) = (r.den : Rat) := rfl
    have e2 : ((s.den : Int) : Rat) = (s.den : Rat) := rfl
    try rw [e1, e2]
    generalize (r.den : Rat) = c at *
    generalize (s.den : Rat) = d at *
    generalize (n : Rat) = m at *
    generalize (i : Rat) = j at *
    subst h3 h4
    grind
  rw [e]
  exact h2
end LawP

namespace LawP
open PySem PySem.Spec PyProof.Rows L2 L3
def sprAt (ps : List Rat) (g n i : Nat) : Rat :=
  if ps = [] then (((i : Nat) : Int) : Rat)
  else if g = 0 then ps.getD 0 0 + (((i : Int) - (n : Int) : Int) : Rat)
  else if g = ps.length then ps.getD (g - 1) 0 + (((i : Int) + 1 : Int) : Rat)
  else ps.getD (g - 1) 0 * ((((n : Int) + 1 : Int) : Rat) - (((i : Int) + 1 : Int) : Rat)) / (((n : Int) + 1 : Int) : Rat) + ps.getD g 0 * (((i : Int) + 1 : Int) : Rat) / (((n : Int) + 1 : Int) : Rat)
def spr (ps : List Rat) (g n : Nat) : List Rat := (List.range n).map (sprAt ps g n)
def sp_spread : VSp := fun ds Q _ => ∃ (ps : List Rat) (g n : Nat), ds = [.tup (ps.map rT), .int g, .int n] ∧ (∀ r ∈ ps, bd 90 r) ∧ ps.length ≤ 1000 ∧ g ≤ ps.length ∧ n ≤ 1000 ∧ Q (.lst ((spr ps g n).map rT))
theorem eqT_nil {rs : List Rat} : L3.eqT (.tup (rs.map rT)) (.tup []) = decide (rs = []) := by
  cases rs with
  | nil => rfl
  | cons r rs => simp [L3.eqT, toPy, toPys, PyData.eqv, PyData.eqvAll]
theorem atI_pts {rs : List Rat} {j : Nat} {r : Rat} (h : rs[j]? = some r) : atI (rs.map rT) (j : Int) = some (rT r) := atI_nat (by rw [List.getElem?_map, h]; rfl)
theorem getD_of {rs : List Rat} {j : Nat} (h : j < rs.length) : rs[j]? = some (rs.getD j 0) := by
  rw [List.getD_eq_getElem?_getD, List.getElem?_eq_getElem h]
  rfl
theorem mem_getD {rs : List Rat} {j : Nat} (h : j < rs.length) : rs.getD j 0 ∈ rs := List.mem_of_getElem? (getD_of h)
theorem sz1000 {n : Nat} (h : n ≤ 1000) : n < sizeLine := small1000 h
theorem ws_spread {G : Gt} (h1 : G "stepped" = some ⟨2, 0, sp_stepped⟩) (h2 : G "between" = some ⟨4, 0, sp_between⟩) (ds : List T) (Q : T → Prop) (E : Ex → Prop) (h : sp_spread ds Q E) : wSs G b_spread (L3.startT ["points", "gap", "n", "i"] ds) (endsOf 1 Q E) := by
  obtain ⟨ps, g, n, rfl, hb, hl, hg, hn, q⟩ := h
  simp only [b_spread, wEq, eqT_nil, eqT_int, okB_tup, wSs, wS, w, mk, bOf, wEs, wP, wI, wIfs, wAnd, wOr, rd, L3.startT, frz, frz1, List.foldl, List.map, List.length, endsOf, List.cons_append, List.nil_append, List.replicate, List.set, Co.w, Bo.w, Bf.w, wCmp, wGcd, wFdv, wNeg, wMul, wAdd, wSub, wMod, wPar, Ms.fl, wMs, setM, Tg.w, wTup_cons, wTup_nil, wLcE, wF, List.getElem?_cons_zero, List.getElem?_cons_succ, List.set_cons_zero, List.set_cons_succ, Nat.reduceSub, Nat.reduceAdd, List.length_cons, List.length_nil, List.map_cons, List.map_nil, List.foldl_nil, List.replicate_succ, List.replicate_zero, Nat.reduceEqDiff, if_false, if_true, T.bl.injEq, T.int.injEq, T.tup.injEq, T.lst.injEq, exists_eq_left', true_or, and_true, true_and, reduceCtorEq, reduceIte, decide_eq_true_eq, seqT, Option.some.injEq, wipeT, wRev, wSl, false_or, or_true, bneF, bneT, Int.toNat_natCast, okB_int, okB_non, okB_rT, okB_rTs, okB_rTt, ownL, wLt, wIn, inT_rTs, okE_int, okE_str, okE_rT, okE_rTs, okE_rTt, okE_nil, tyIs, wListF, wCatF, timesT]
  have q' : Q (.lst ((List.range n).map fun i => rT (sprAt ps g n i))) := by
    unfold spr at q
    rw [List.map_map] at q
    exact q
  have z0 : (0 : Nat) ≤ sizeLine := Nat.zero_le _
  have hn1 : -(2 ^ 62 : Int) ≤ (n : Int) := by omega
  have hn2 : (n : Int) < 2 ^ 62 := by omega
  have hln : (List.range n).length < sizeLine := by rw [List.length_range]; exact sz1000 hn
  refine ⟨z0, ?_⟩
  by_cases hp : ps = []
  · rw [if_pos hp]
    refine ⟨hn1, hn2, ?_⟩
    unfold L3.rangeT
    refine wLc_each (F := fun i => rT (sprAt ps g n i)) _ hln (fun i _ K K' N k => ?_) q'
    simp only [e_spread_4, wSs, wS, w, mk, bOf, wEs, wP, wI, wIfs, wAnd, wOr, rd, L3.startT, frz, frz1, List.foldl, List.map, List.length, endsOf, List.cons_append, List.nil_append, List.replicate, List.set, Co.w, Bo.w, Bf.w, wCmp, wGcd, wFdv, wNeg, wMul, wAdd, wSub, wMod, wPar, Ms.fl, wMs, setM, Tg.w, wTup_cons, wTup_nil, wLcE, wF, List.getElem?_cons_zero, List.getElem?_cons_succ, List.set_cons_zero, List.set_cons_succ, Nat.reduceSub, Nat.reduceAdd, List.length_cons, List.length_nil, List.map_cons, List.map_nil, List.foldl_nil, List.replicate_succ, List.replicate_zero, Nat.reduceEqDiff, if_false, if_true, T.bl.injEq, T.int.injEq, T.tup.injEq, T.lst.injEq, exists_eq_left', true_or, and_true, true_and, reduceCtorEq, reduceIte, decide_eq_true_eq, seqT, Option.some.injEq, wipeT, wRev, wSl, false_or, or_true, bneF, bneT, Int.toNat_natCast, okB_int, okB_non, okB_rT, okB_rTs, okB_rTt, ownL, wLt, wIn, inT_rTs, okE_int, okE_str, okE_rT, okE_rTs, okE_rTt, okE_nil, tyIs, wListF, wCatF, timesT]
    refine ⟨by decide, ?_⟩
    unfold sprAt at k
    rw [if_pos hp, rT_int] at k
    rw [Int.zero_add]
    exact k
  have h0 : 0 < ps.length := List.length_pos_iff.mpr hp
  rw [if_neg hp]
  by_cases hg0 : g = 0
  · subst hg0
    rw [if_pos (by rfl)]
    refine ⟨hn1, hn2, ?_⟩
    unfold L3.rangeT
    refine wLc_each (F := fun i => rT (sprAt ps 0 n i)) _ hln (fun i hi K K' N k => ?_) q'
    rw [List.mem_range] at hi
    simp only [e_spread_3, wIx, wCall_of h1, wSs, wS, w, mk, bOf, wEs, wP, wI, wIfs, wAnd, wOr, rd, L3.startT, frz, frz1, List.foldl, List.map, List.length, endsOf, List.cons_append, List.nil_append, List.replicate, List.set, Co.w, Bo.w, Bf.w, wCmp, wGcd, wFdv, wNeg, wMul, wAdd, wSub, wMod, wPar, Ms.fl, wMs, setM, Tg.w, wTup_cons, wTup_nil, wLcE, wF, List.getElem?_cons_zero, List.getElem?_cons_succ, List.set_cons_zero, List.set_cons_succ, Nat.reduceSub, Nat.reduceAdd, List.length_cons, List.length_nil, List.map_cons, List.map_nil, List.foldl_nil, List.replicate_succ, List.replicate_zero, Nat.reduceEqDiff, if_false, if_true, T.bl.injEq, T.int.injEq, T.tup.injEq, T.lst.injEq, exists_eq_left', true_or, and_true, true_and, reduceCtorEq, reduceIte, decide_eq_true_eq, seqT, Option.some.injEq, wipeT, wRev, wSl, false_or, or_true, bneF, bneT, Int.toNat_natCast, okB_int, okB_non, okB_rT, okB_rTs, okB_rTt, ownL, wLt, wIn, inT_rTs, okE_int, okE_str, okE_rT, okE_rTs, okE_rTt, okE_nil, tyIs, wListF, wCatF, timesT]
    refine ⟨_, atI_pts (j := 0) (getD_of h0), _, _, rfl, (hb _ (mem_getD h0)).mono (by decide), by omega, ?_⟩
    unfold sprAt at k
    rw [if_neg hp, if_pos rfl] at k
    rw [Int.zero_add]
    exact k
  rw [if_neg (by omega)]
  by_cases hgl : g = ps.length
  · rw [if_pos (by rw [List.length_map]; omega)]
    refine ⟨hn1, hn2, ?_⟩
    unfold L3.rangeT
    refine wLc_each (F := fun i => rT (sprAt ps g n i)) _ hln (fun i hi K K' N k => ?_) q'
    rw [List.mem_range] at hi
    simp only [e_spread_2, wIx, wCall_of h1, wSs, wS, w, mk, bOf, wEs, wP, wI, wIfs, wAnd, wOr, rd, L3.startT, frz, frz1, List.foldl, List.map, List.length, endsOf, List.cons_append, List.nil_append, List.replicate, List.set, Co.w, Bo.w, Bf.w, wCmp, wGcd, wFdv, wNeg, wMul, wAdd, wSub, wMod, wPar, Ms.fl, wMs, setM, Tg.w, wTup_cons, wTup_nil, wLcE, wF, List.getElem?_cons_zero, List.getElem?_cons_succ, List.set_cons_zero, List.set_cons_succ, Nat.reduceSub, Nat.reduceAdd, List.length_cons, List.length_nil, List.map_cons, List.map_nil, List.foldl_nil, List.replicate_succ, List.replicate_zero, Nat.reduceEqDiff, if_false, if_true, T.bl.injEq, T.int.injEq, T.tup.injEq, T.lst.injEq, exists_eq_left', true_or, and_true, true_and, reduceCtorEq, reduceIte, decide_eq_true_eq, seqT, Option.some.injEq, wipeT, wRev, wSl, false_or, or_true, bneF, bneT, Int.toNat_natCast, okB_int, okB_non, okB_rT, okB_rTs, okB_rTt, ownL, wLt, wIn, inT_rTs, okE_int, okE_str, okE_rT, okE_rTs, okE_rTt, okE_nil, tyIs, wListF, wCatF, timesT]
    have e : atI (ps.map rT) (-1) = some (rT (ps.getD (g - 1) 0)) := by
      have hx := getD_of (rs := ps) (j := g - 1) (by omega)
      unfold atI
      have : ixN (ps.map rT).length (-1) = some (g - 1) := by
        unfold ixN
        rw [if_neg (by omega), if_pos (by rw [List.length_map]; omega), List.length_map]
        congr 1
        omega
      rw [this]
      show (ps.map rT)[g - 1]? = _
      rw [List.getElem?_map, hx]
      rfl
    refine ⟨_, e, _, _, rfl, (hb _ (mem_getD (by omega))).mono (by decide), by omega, ?_⟩
    unfold sprAt at k
    rw [if_neg hp, if_neg hg0, if_pos hgl] at k
    rw [Int.zero_add]
    exact k
  · rw [if_neg (by rw [List.length_map]; omega)]
    refine ⟨hn1, hn2, ?_⟩
    unfold L3.rangeT
    refine wLc_each (F := fun i => rT (sprAt ps g n i)) _ hln (fun i hi K K' N k => ?_) q'
    rw [List.mem_range] at hi
    simp only [e_spread_1, wIx, wCall_of h2, wSs, wS, w, mk, bOf, wEs, wP, wI, wIfs, wAnd, wOr, rd, L3.startT, frz, frz1, List.foldl, List.map, List.length, endsOf, List.cons_append, List.nil_append, List.replicate, List.set, Co.w, Bo.w, Bf.w, wCmp, wGcd, wFdv, wNeg, wMul, wAdd, wSub, wMod, wPar, Ms.fl, wMs, setM, Tg.w, wTup_cons, wTup_nil, wLcE, wF, List.getElem?_cons_zero, List.getElem?_cons_succ, List.set_cons_zero, List.set_cons_succ, Nat.reduceSub, Nat.reduceAdd, List.length_cons, List.length_nil, List.map_cons, List.map_nil, List.foldl_nil, List.replicate_succ, List.replicate_zero, Nat.reduceEqDiff, if_false, if_true, T.bl.injEq, T.int.injEq, T.tup.injEq, T.lst.injEq, exists_eq_left', true_or, and_true, true_and, reduceCtorEq, reduceIte, decide_eq_true_eq, seqT, Option.some.injEq, wipeT, wRev, wSl, false_or, or_true, bneF, bneT, Int.toNat_natCast, okB_int, okB_non, okB_rT, okB_rTs, okB_rTt, ownL, wLt, wIn, inT_rTs, okE_int, okE_str, okE_rT, okE_rTs, okE_rTt, okE_nil, tyIs, wListF, wCatF, timesT]
    refine ⟨_, by rw [show (g : Int) - 1 = ((g - 1 : Nat) : Int) by omega]; exact atI_pts (getD_of (by omega)), _, atI_pts (getD_of (by omega)), _, _, _, _, rfl, (hb _ (mem_getD (by omega))).mono (by decide), (hb _ (mem_getD (by omega))).mono (by decide), by omega, by omega, by omega, by omega, ?_⟩
    unfold sprAt at k
    rw [if_neg hp, if_neg hg0, if_neg hgl] at k
    rw [Int.zero_add]
    exact k
end LawP

namespace LawP
open PySem PySem.Spec PyProof.Rows L2 L3
theorem ws_l_spread {G : Gt} (h1 : G "_law_point" = some ⟨2, 0, sp_point⟩) (ds : List T) (Q : T → Prop) (E : Ex → Prop) (h : sp_spread ds Q E) : wSs G b_l_spread (L3.startT ["_law_points", "_law_gap", "_law_n", "_law_i", "_law_p", "_law_q", "_law_a", "_law_b", "_law_c", "_law_d"] ds) (endsOf 0 Q E) := by
  obtain ⟨ps, g, n, rfl, hb, hl, hg, hn, q⟩ := h
  have q' : Q (.lst ((List.range n).map fun i => rT (sprAt ps g n i))) := by
    unfold spr at q
    rw [List.map_map] at q
    exact q
  have hn1 : -(2 ^ 62 : Int) ≤ (n : Int) := by omega
  have hn2 : (n : Int) < 2 ^ 62 := by omega
  have hln : (List.range n).length < sizeLine := by rw [List.length_range]; exact sz1000 hn
  simp only [b_l_spread, wEq, wIx, eqT_int, wSs, wS, w, mk, bOf, wEs, wP, wI, wIfs, wAnd, wOr, rd, L3.startT, frz, frz1, List.foldl, List.map, List.length, endsOf, List.cons_append, List.nil_append, List.replicate, List.set, Co.w, Bo.w, Bf.w, wCmp, wGcd, wFdv, wNeg, wMul, wAdd, wSub, wMod, wPar, Ms.fl, wMs, setM, Tg.w, wTup_cons, wTup_nil, wLcE, wF, List.getElem?_cons_zero, List.getElem?_cons_succ, List.set_cons_zero, List.set_cons_succ, Nat.reduceSub, Nat.reduceAdd, List.length_cons, List.length_nil, List.map_cons, List.map_nil, List.foldl_nil, List.replicate_succ, List.replicate_zero, Nat.reduceEqDiff, if_false, if_true, T.bl.injEq, T.int.injEq, T.tup.injEq, T.lst.injEq, exists_eq_left', true_or, and_true, true_and, reduceCtorEq, reduceIte, decide_eq_true_eq, seqT, Option.some.injEq, wipeT, wRev, wSl, false_or, or_true, bneF, bneT, Int.toNat_natCast, okB_int, okB_non, okB_rT, okB_rTs, okB_rTt, ownL, wLt, wIn, inT_rTs, okE_int, okE_str, okE_rT, okE_rTs, okE_rTt, okE_nil, tyIs, wListF, wCatF, timesT]
  by_cases hp : ps = []
  · rw [if_pos (by subst hp; rfl)]
    refine ⟨hn1, hn2, ?_⟩
    unfold L3.rangeT
    refine wLc_each (F := fun i => rT (sprAt ps g n i)) _ hln (fun i _ K K' N k => ?_) q'
    simp only [e_l_spread_4, wSs, wS, w, mk, bOf, wEs, wP, wI, wIfs, wAnd, wOr, rd, L3.startT, frz, frz1, List.foldl, List.map, List.length, endsOf, List.cons_append, List.nil_append, List.replicate, List.set, Co.w, Bo.w, Bf.w, wCmp, wGcd, wFdv, wNeg, wMul, wAdd, wSub, wMod, wPar, Ms.fl, wMs, setM, Tg.w, wTup_cons, wTup_nil, wLcE, wF, List.getElem?_cons_zero, List.getElem?_cons_succ, List.set_cons_zero, List.set_cons_succ, Nat.reduceSub, Nat.reduceAdd, List.length_cons, List.length_nil, List.map_cons, List.map_nil, List.foldl_nil, List.replicate_succ, List.replicate_zero, Nat.reduceEqDiff, if_false, if_true, T.bl.injEq, T.int.injEq, T.tup.injEq, T.lst.injEq, exists_eq_left', true_or, and_true, true_and, reduceCtorEq, reduceIte, decide_eq_true_eq, seqT, Option.some.injEq, wipeT, wRev, wSl, false_or, or_true, bneF, bneT, Int.toNat_natCast, okB_int, okB_non, okB_rT, okB_rTs, okB_rTt, ownL, wLt, wIn, inT_rTs, okE_int, okE_str, okE_rT, okE_rTs, okE_rTt, okE_nil, tyIs, wListF, wCatF, timesT]
    refine ⟨by decide, ?_⟩
    unfold sprAt at k
    rw [if_pos hp, rT_int] at k
    rw [Int.zero_add]
    exact k
  have h0 : 0 < ps.length := List.length_pos_iff.mpr hp
  rw [if_neg (by rw [List.length_map]; omega)]
  by_cases hg0 : g = 0
  · subst hg0
    rw [if_pos (by rfl)]
    refine ⟨_, atI_pts (j := 0) (getD_of h0), ?_⟩
    simp only [rT, wSs, wS, w, mk, bOf, wEs, wP, wI, wIfs, wAnd, wOr, rd, L3.startT, frz, frz1, List.foldl, List.map, List.length, endsOf, List.cons_append, List.nil_append, List.replicate, List.set, Co.w, Bo.w, Bf.w, wCmp, wGcd, wFdv, wNeg, wMul, wAdd, wSub, wMod, wPar, Ms.fl, wMs, setM, Tg.w, wTup_cons, wTup_nil, wLcE, wF, List.getElem?_cons_zero, List.getElem?_cons_succ, List.set_cons_zero, List.set_cons_succ, Nat.reduceSub, Nat.reduceAdd, List.length_cons, List.length_nil, List.map_cons, List.map_nil, List.foldl_nil, List.replicate_succ, List.replicate_zero, Nat.reduceEqDiff, if_false, if_true, T.bl.injEq, T.int.injEq, T.tup.injEq, T.lst.injEq, exists_eq_left', true_or, and_true, true_and, reduceCtorEq, reduceIte, decide_eq_true_eq, seqT, Option.some.injEq, wipeT, wRev, wSl, false_or, or_true, bneF, bneT, Int.toNat_natCast, okB_int, okB_non, okB_rT, okB_rTs, okB_rTt, ownL, wLt, wIn, inT_rTs, okE_int, okE_str, okE_rT, okE_rTs, okE_rTt, okE_nil, tyIs, wListF, wCatF, timesT]
    refine ⟨hn1, hn2, ?_⟩
    unfold L3.rangeT
    refine wLc_each (F := fun i => rT (sprAt ps 0 n i)) _ hln (fun i hi K K' N k => ?_) q'
    rw [List.mem_range] at hi
    have hbd := hb _ (mem_getD h0)
    unfold sprAt at k
    rw [if_neg hp, if_pos rfl] at k
    generalize ps.getD 0 0 = r at *
    simp only [e_l_spread_3, wIx, wCall_of h1, wSs, wS, w, mk, bOf, wEs, wP, wI, wIfs, wAnd, wOr, rd, L3.startT, frz, frz1, List.foldl, List.map, List.length, endsOf, List.cons_append, List.nil_append, List.replicate, List.set, Co.w, Bo.w, Bf.w, wCmp, wGcd, wFdv, wNeg, wMul, wAdd, wSub, wMod, wPar, Ms.fl, wMs, setM, Tg.w, wTup_cons, wTup_nil, wLcE, wF, List.getElem?_cons_zero, List.getElem?_cons_succ, List.set_cons_zero, List.set_cons_succ, Nat.reduceSub, Nat.reduceAdd, List.length_cons, List.length_nil, List.map_cons, List.map_nil, List.foldl_nil, List.replicate_succ, List.replicate_zero, Nat.reduceEqDiff, if_false, if_true, T.bl.injEq, T.int.injEq, T.tup.injEq, T.lst.injEq, exists_eq_left', true_or, and_true, true_and, reduceCtorEq, reduceIte, decide_eq_true_eq, seqT, Option.some.injEq, wipeT, wRev, wSl, false_or, or_true, bneF, bneT, Int.toNat_natCast, okB_int, okB_non, okB_rT, okB_rTs, okB_rTt, ownL, wLt, wIn, inT_rTs, okE_int, okE_str, okE_rT, okE_rTs, okE_rTt, okE_nil, tyIs, wListF, wCatF, timesT]
    have hd := hbd.d
    have hni : ((n : Int) - (0 + (i : Int))).natAbs < 2 ^ 20 := by omega
    refine ⟨bd.cmul (k := 100) (two_le hni (by decide)) (two_le hd (by decide)) (by decide) (by decide), _, _, rfl, bd_pos, two_le (natAbs_sub_lt (two_le hbd.1 (by decide)) (natAbs_mul_lt (k := 90) hni hd)) (by decide), two_le hd (by decide), ?_⟩
    have e : mkRat (r.num - ((n : Int) - (0 + (i : Int))) * (r.den : Int)) ((r.den : Int)).toNat = r + (((i : Int) - (n : Int) : Int) : Rat) := by
      rw [mk_int bd_pos]
      have h3 := rat_num_den r
      have h5 := den_ne r
      push_cast
      have e1 : ((r.den : Int) : Rat) = (r.den : Rat) := rfl
      generalize (r.num : Rat) = a at *
      try rw [e1]
      generalize (r.den : Rat) = c at *
      generalize (n : Rat) = m at *
      generalize (i : Rat) = j at *
      subst h3
      grind
    rw [e]
    exact k
  rw [if_neg (by omega)]
  by_cases hgl : g = ps.length
  · rw [if_pos (by rw [List.length_map]; omega)]
    refine ⟨_, by rw [show (g : Int) - 1 = ((g - 1 : Nat) : Int) by omega]; exact atI_pts (getD_of (by omega)), ?_⟩
    simp only [rT, wSs, wS, w, mk, bOf, wEs, wP, wI, wIfs, wAnd, wOr, rd, L3.startT, frz, frz1, List.foldl, List.map, List.length, endsOf, List.cons_append, List.nil_append, List.replicate, List.set, Co.w, Bo.w, Bf.w, wCmp, wGcd, wFdv, wNeg, wMul, wAdd, wSub, wMod, wPar, Ms.fl, wMs, setM, Tg.w, wTup_cons, wTup_nil, wLcE, wF, List.getElem?_cons_zero, List.getElem?_cons_succ, List.set_cons_zero, List.set_cons_succ, Nat.reduceSub, Nat.reduceAdd, List.length_cons, List.length_nil, List.map_cons, List.map_nil, List.foldl_nil, List.replicate_succ, List.replicate_zero, Nat.reduceEqDiff, if_false, if_true, T.bl.injEq, T.int.injEq, T.tup.injEq, T.lst.injEq, exists_eq_left', true_or, and_true, true_and, reduceCtorEq, reduceIte, decide_eq_true_eq, seqT, Option.some.injEq, wipeT, wRev, wSl, false_or, or_true, bneF, bneT, Int.toNat_natCast, okB_int, okB_non, okB_rT, okB_rTs, okB_rTt, ownL, wLt, wIn, inT_rTs, okE_int, okE_str, okE_rT, okE_rTs, okE_rTt, okE_nil, tyIs, wListF, wCatF, timesT]
    refine ⟨hn1, hn2, ?_⟩
    unfold L3.rangeT
    refine wLc_each (F := fun i => rT (sprAt ps g n i)) _ hln (fun i hi K K' N k => ?_) q'
    rw [List.mem_range] at hi
    have hbd := hb _ (mem_getD (rs := ps) (j := g - 1) (by omega))
    unfold sprAt at k
    rw [if_neg hp, if_neg hg0, if_pos hgl] at k
    generalize ps.getD (g - 1) 0 = r at *
    simp only [e_l_spread_2, wIx, wCall_of h1, wSs, wS, w, mk, bOf, wEs, wP, wI, wIfs, wAnd, wOr, rd, L3.startT, frz, frz1, List.foldl, List.map, List.length, endsOf, List.cons_append, List.nil_append, List.replicate, List.set, Co.w, Bo.w, Bf.w, wCmp, wGcd, wFdv, wNeg, wMul, wAdd, wSub, wMod, wPar, Ms.fl, wMs, setM, Tg.w, wTup_cons, wTup_nil, wLcE, wF, List.getElem?_cons_zero, List.getElem?_cons_succ, List.set_cons_zero, List.set_cons_succ, Nat.reduceSub, Nat.reduceAdd, List.length_cons, List.length_nil, List.map_cons, List.map_nil, List.foldl_nil, List.replicate_succ, List.replicate_zero, Nat.reduceEqDiff, if_false, if_true, T.bl.injEq, T.int.injEq, T.tup.injEq, T.lst.injEq, exists_eq_left', true_or, and_true, true_and, reduceCtorEq, reduceIte, decide_eq_true_eq, seqT, Option.some.injEq, wipeT, wRev, wSl, false_or, or_true, bneF, bneT, Int.toNat_natCast, okB_int, okB_non, okB_rT, okB_rTs, okB_rTt, ownL, wLt, wIn, inT_rTs, okE_int, okE_str, okE_rT, okE_rTs, okE_rTt, okE_nil, tyIs, wListF, wCatF, timesT]
    have hd := hbd.d
    have hni : (0 + (i : Int) + 1).natAbs < 2 ^ 20 := by omega
    refine ⟨bd.cmul (k := 100) (two_le hni (by decide)) (two_le hd (by decide)) (by decide) (by decide), _, _, rfl, bd_pos, two_le (natAbs_add_lt (two_le hbd.1 (by decide)) (natAbs_mul_lt (k := 90) hni hd)) (by decide), two_le hd (by decide), ?_⟩
    have e : mkRat (r.num + (0 + (i : Int) + 1) * (r.den : Int)) ((r.den : Int)).toNat = r + (((i : Int) + 1 : Int) : Rat) := by
      rw [mk_int bd_pos]
      have h3 := rat_num_den r
      have h5 := den_ne r
      push_cast
      have e1 : ((r.den : Int) : Rat) = (r.den : Rat) := rfl
      generalize (r.num : Rat) = a at *
      try rw [e1]
      generalize (r.den : Rat) = c at *
      generalize (i : Rat) = j at *
      subst h3
      grind
    rw [e]
    exact k
  · rw [if_neg (by rw [List.length_map]; omega)]
    refine ⟨_, by rw [show (g : Int) - 1 = ((g - 1 : Nat) : Int) by omega]; exact atI_pts (getD_of (by omega)), ?_⟩
    simp only [rT, wSs, wS, w, mk, bOf, wEs, wP, wI, wIfs, wAnd, wOr, rd, L3.startT, frz, frz1, List.foldl, List.map, List.length, endsOf, List.cons_append, List.nil_append, List.replicate, List.set, Co.w, Bo.w, Bf.w, wCmp, wGcd, wFdv, wNeg, wMul, wAdd, wSub, wMod, wPar, Ms.fl, wMs, setM, Tg.w, wTup_cons, wTup_nil, wLcE, wF, List.getElem?_cons_zero, List.getElem?_cons_succ, List.set_cons_zero, List.set_cons_succ, Nat.reduceSub, Nat.reduceAdd, List.length_cons, List.length_nil, List.map_cons, List.map_nil, List.foldl_nil, List.replicate_succ, List.replicate_zero, Nat.reduceEqDiff, if_false, if_true, T.bl.injEq, T.int.injEq, T.tup.injEq, T.lst.injEq, exists_eq_left', true_or, and_true, true_and, reduceCtorEq, reduceIte, decide_eq_true_eq, seqT, Option.some.injEq, wipeT, wRev, wSl, false_or, or_true, bneF, bneT, Int.toNat_natCast, okB_int, okB_non, okB_rT, okB_rTs, okB_rTt, ownL, wLt, wIn, inT_rTs, okE_int, okE_str, okE_rT, okE_rTs, okE_rTt, okE_nil, tyIs, wListF, wCatF, timesT]
    refine ⟨_, atI_pts (getD_of (by omega)), ?_⟩
    simp only [rT, wSs, wS, w, mk, bOf, wEs, wP, wI, wIfs, wAnd, wOr, rd, L3.startT, frz, frz1, List.foldl, List.map, List.length, endsOf, List.cons_append, List.nil_append, List.replicate, List.set, Co.w, Bo.w, Bf.w, wCmp, wGcd, wFdv, wNeg, wMul, wAdd, wSub, wMod, wPar, Ms.fl, wMs, setM, Tg.w, wTup_cons, wTup_nil, wLcE, wF, List.getElem?_cons_zero, List.getElem?_cons_succ, List.set_cons_zero, List.set_cons_succ, Nat.reduceSub, Nat.reduceAdd, List.length_cons, List.length_nil, List.map_cons, List.map_nil, List.foldl_nil, List.replicate_succ, List.replicate_zero, Nat.reduceEqDiff, if_false, if_true, T.bl.injEq, T.int.injEq, T.tup.injEq, T.lst.injEq, exists_eq_left', true_or, and_true, true_and, reduceCtorEq, reduceIte, decide_eq_true_eq, seqT, Option.some.injEq, wipeT, wRev, wSl, false_or, or_true, bneF, bneT, Int.toNat_natCast, okB_int, okB_non, okB_rT, okB_rTs, okB_rTt, ownL, wLt, wIn, inT_rTs, okE_int, okE_str, okE_rT, okE_rTs, okE_rTt, okE_nil, tyIs, wListF, wCatF, timesT]
    refine ⟨hn1, hn2, ?_⟩
    unfold L3.rangeT
    refine wLc_each (F := fun i => rT (sprAt ps g n i)) _ hln (fun i hi K K' N k => ?_) q'
    rw [List.mem_range] at hi
    have hbr := hb _ (mem_getD (rs := ps) (j := g - 1) (by omega))
    have hbs := hb _ (mem_getD (rs := ps) (j := g) (by omega))
    unfold sprAt at k
    rw [if_neg hp, if_neg hg0, if_neg hgl] at k
    generalize ps.getD (g - 1) 0 = r at *
    generalize ps.getD g 0 = s at *
    simp only [e_l_spread_1, wIx, wCall_of h1, wSs, wS, w, mk, bOf, wEs, wP, wI, wIfs, wAnd, wOr, rd, L3.startT, frz, frz1, List.foldl, List.map, List.length, endsOf, List.cons_append, List.nil_append, List.replicate, List.set, Co.w, Bo.w, Bf.w, wCmp, wGcd, wFdv, wNeg, wMul, wAdd, wSub, wMod, wPar, Ms.fl, wMs, setM, Tg.w, wTup_cons, wTup_nil, wLcE, wF, List.getElem?_cons_zero, List.getElem?_cons_succ, List.set_cons_zero, List.set_cons_succ, Nat.reduceSub, Nat.reduceAdd, List.length_cons, List.length_nil, List.map_cons, List.map_nil, List.foldl_nil, List.replicate_succ, List.replicate_zero, Nat.reduceEqDiff, if_false, if_true, T.bl.injEq, T.int.injEq, T.tup.injEq, T.lst.injEq, exists_eq_left', true_or, and_true, true_and, reduceCtorEq, reduceIte, decide_eq_true_eq, seqT, Option.some.injEq, wipeT, wRev, wSl, false_or, or_true, bneF, bneT, Int.toNat_natCast, okB_int, okB_non, okB_rT, okB_rTs, okB_rTt, ownL, wLt, wIn, inT_rTs, okE_int, okE_str, okE_rT, okE_rTs, okE_rTt, okE_nil, tyIs, wListF, wCatF, timesT]
    have hni : (0 + (i : Int) + 1).natAbs < 2 ^ 20 := by omega
    have hnn : ((n : Int) + 1).natAbs < 2 ^ 20 := by omega
    have a1 := natAbs_mul_lt hbr.1 hbs.d
    have a2 := natAbs_mul_lt hbs.1 hbr.d
    have a3 := natAbs_mul_lt hbr.d hbs.d
    have a4 := natAbs_sub_lt a2 a1
    have c : ∀ {x y : Int} {j k : Nat}, x.natAbs < 2 ^ j → y.natAbs < 2 ^ k → j ≤ 300 → k ≤ 300 → CMulW x y := fun hx hy l1 l2 => bd.cmul (k := 300) (two_le hx l1) (two_le hy l2) (by decide) (by decide)
    have hp2 : (0 : Int) < (r.den : Int) * (s.den : Int) * ((n : Int) + 1) := Int.mul_pos (Int.mul_pos bd_pos bd_pos) (by omega)
    refine ⟨c hbr.1 hbs.d (by decide) (by decide), c a1 hnn (by decide) (by decide), c hbs.1 hbr.d (by decide) (by decide), c hbr.1 hbs.d (by decide) (by decide), c a4 hni (by decide) (by decide), c hbr.d hbs.d (by decide) (by decide), c a3 hnn (by decide) (by decide), _, _, rfl, hp2,
      two_le (natAbs_add_lt (two_le (natAbs_mul_lt a1 hnn) (show _ ≤ 300 by decide)) (two_le (natAbs_mul_lt a4 hni) (by decide))) (by decide), two_le (natAbs_mul_lt a3 hnn) (by decide), ?_⟩
    have e : mkRat (r.num * (s.den : Int) * ((n : Int) + 1) + (s.num * (r.den : Int) - r.num * (s.den : Int)) * (0 + (i : Int) + 1)) ((r.den : Int) * (s.den : Int) * ((n : Int) + 1)).toNat = r * ((((n : Int) + 1 : Int) : Rat) - (((i : Int) + 1 : Int) : Rat)) / (((n : Int) + 1 : Int) : Rat) + s * (((i : Int) + 1 : Int) : Rat) / (((n : Int) + 1 : Int) : Rat) := by
      rw [mk_int hp2]
      have h3 := rat_num_den r
      have h4 := rat_num_den s
      have h5 := den_ne r
      have h6 := den_ne s
      have h7 : ((((n : Int) + 1 : Int)) : Rat) ≠ 0 := by
        intro z
        have := Rat.intCast_eq_zero_iff.mp z
        omega
      push_cast at h7 ⊢
      have e1 : ((r.den : Int) : Rat) = (r.den : Rat) := rfl
      have e2 : ((s.den : Int) : Rat) = (s.den : Rat) := rfl
      generalize (r.num : Rat) = a at *
      generalize (s.num : Rat) = b at *
      try rw [e1, e2]
      generalize (r.den : Rat) = c at *
      generalize (s.den : Rat) = d at *
      generalize (n : Rat) = m at *
      generalize (i : Rat) = j at *
      subst h3 h4
      grind
    rw [e]
    exact k
end LawP

namespace LawP
open PySem PySem.Spec PyProof.Rows L2 L3
/-- points as they are drawn -/
def Drawn (rs : List Rat) (m : Nat) : Prop := rs.length = m ∧ rs.Pairwise (· < ·) ∧ ∀ r ∈ rs, bd 20 r
def sp_draw : VSp := fun ds Q _ => ∃ (a : Addr) (m : Nat), ds = [.src 1 a, .int m] ∧ m ≤ 4 ∧ ∀ rs, Drawn rs m → Q (.lst (rs.map rT))
theorem mk_between {h t q : Int} (hq : 0 < q) (h0 : 0 ≤ t) (h1 : t < q) : (h : Rat) ≤ mkRat (h * q + t) q.toNat ∧ mkRat (h * q + t) q.toNat < ((h + 1 : Int) : Rat) := by
  rw [mk_int hq]
  have hq' : (0 : Rat) < (q : Rat) := by exact_mod_cast hq
  constructor
  · rw [← Rat.not_lt, Rat.div_lt_iff hq', Rat.not_lt]
    have : h * q ≤ h * q + t := by omega
    exact_mod_cast this
  · rw [Rat.div_lt_iff hq']
    have : h * q + t < (h + 1) * q := by rw [Int.add_mul]; omega
    exact_mod_cast this
theorem ws_draw {G : Gt} (h1 : G "_law_point" = some ⟨2, 0, sp_point⟩) (h2 : G "_law_pick" = some ⟨2, 0, spPick⟩) (ds : List T) (Q : T → Prop) (E : Ex → Prop) (h : sp_draw ds Q E) : wSs G b_l_draw_points (L3.startT ["_law_source", "_law_many", "_law_found", "_law_here", "_law_lap", "_law_q"] ds) (endsOf 0 Q E) := by
  obtain ⟨a, m, rfl, hm, q⟩ := h
  simp only [b_l_draw_points, wCall_of h2, wSs, wS, w, mk, bOf, wEs, wP, wI, wIfs, wAnd, wOr, rd, L3.startT, frz, frz1, List.foldl, List.map, List.length, endsOf, List.cons_append, List.nil_append, List.replicate, List.set, Co.w, Bo.w, Bf.w, wCmp, wGcd, wFdv, wNeg, wMul, wAdd, wSub, wMod, wPar, Ms.fl, wMs, setM, Tg.w, wTup_cons, wTup_nil, wLcE, wF, List.getElem?_cons_zero, List.getElem?_cons_succ, List.set_cons_zero, List.set_cons_succ, Nat.reduceSub, Nat.reduceAdd, List.length_cons, List.length_nil, List.map_cons, List.map_nil, List.foldl_nil, List.replicate_succ, List.replicate_zero, Nat.reduceEqDiff, if_false, if_true, T.bl.injEq, T.int.injEq, T.tup.injEq, T.lst.injEq, exists_eq_left', true_or, and_true, true_and, reduceCtorEq, reduceIte, decide_eq_true_eq, seqT, Option.some.injEq, wipeT, wRev, wSl, false_or, or_true, bneF, bneT, Int.toNat_natCast, okB_int, okB_non, okB_rT, okB_rTs, okB_rTt, ownL, wLt, wIn, inT_rTs, okE_int, okE_str, okE_rT, okE_rTs, okE_rTt, okE_nil, tyIs, wListF, wCatF, timesT]
  refine ⟨by decide, a, 5, rfl, by decide, fun r0 hr0 hr1 => ?_⟩
  refine ⟨by omega, by omega, ?_⟩
  refine wFor_inv (fun i ρ => ∃ (rs : List Rat) (here : Int) (x4 x5 : Slot), ρ = [.sh (.src 1 a), .sh (.int m), .own 1 (.lst (rs.map rT)), .sh (.int here), x4, x5] ∧ Drawn rs i ∧ (∀ r ∈ rs, r < (here : Rat)) ∧ -2 ≤ here ∧ here ≤ 2 + 2 * i)
    ⟨[], r0 - 2, .un, .un, rfl, ⟨rfl, List.Pairwise.nil, fun _ z => (nomatch z)⟩, fun _ z => (nomatch z), by omega, by omega⟩ ?_ ?_
  · rintro i d ρ K hd ⟨rs, here, x4, x5, rfl, ⟨e1, e2, e3⟩, e4, e5, e6⟩ hK
    have hi : i < m := by
      have := (List.getElem?_eq_some_iff.mp hd).1
      simpa [L3.rangeT] using this
    simp only [b_l_draw_points_1, wCall_of h1, wCall_of h2, wSs, wS, w, mk, bOf, wEs, wP, wI, wIfs, wAnd, wOr, rd, L3.startT, frz, frz1, List.foldl, List.map, List.length, endsOf, List.cons_append, List.nil_append, List.replicate, List.set, Co.w, Bo.w, Bf.w, wCmp, wGcd, wFdv, wNeg, wMul, wAdd, wSub, wMod, wPar, Ms.fl, wMs, setM, Tg.w, wTup_cons, wTup_nil, wLcE, wF, List.getElem?_cons_zero, List.getElem?_cons_succ, List.set_cons_zero, List.set_cons_succ, Nat.reduceSub, Nat.reduceAdd, List.length_cons, List.length_nil, List.map_cons, List.map_nil, List.foldl_nil, List.replicate_succ, List.replicate_zero, Nat.reduceEqDiff, if_false, if_true, T.bl.injEq, T.int.injEq, T.tup.injEq, T.lst.injEq, exists_eq_left', true_or, and_true, true_and, reduceCtorEq, reduceIte, decide_eq_true_eq, seqT, Option.some.injEq, wipeT, wRev, wSl, false_or, or_true, bneF, bneT, Int.toNat_natCast, okB_int, okB_non, okB_rT, okB_rTs, okB_rTt, ownL, wLt, wIn, inT_rTs, okE_int, okE_str, okE_rT, okE_rTs, okE_rTt, okE_nil, tyIs, wListF, wCatF, timesT]
    refine ⟨a, 3, rfl, by decide, fun r1 hr10 hr11 => ?_⟩
    have hq0 : (0 : Int) < 1 + r1 := by omega
    have hq1 : 1 + r1 ≤ 3 := by omega
    refine ⟨bd.cmul (k := 100) (by omega) (by omega) (by decide) (by decide), a, 1 + r1, rfl, by omega, fun r2 hr20 hr21 => ?_⟩
    have ht : r2 < 1 + r1 := by omega
    have hb : here * (1 + r1) ≤ 12 * 3 ∧ -6 ≤ here * (1 + r1) := by
      have c : r1 = 0 ∨ r1 = 1 ∨ r1 = 2 := by omega
      rcases c with rfl | rfl | rfl <;> omega
    refine ⟨_, _, rfl, hq0, two_le (j := 20) (by omega) (by decide), two_le (j := 20) (by omega) (by decide), ?_⟩
    have hl : (rs.map rT).length < sizeLine := by rw [List.length_map]; exact sz1000 (by omega)
    refine ⟨hl, a, 2, rfl, by decide, fun r3 hr30 hr31 => ?_⟩
    obtain ⟨b1, b2⟩ := mk_between (h := here) hq0 hr20 ht
    refine hK _ ⟨rs ++ [mkRat (here * (1 + r1) + r2) (1 + r1).toNat], here + 1 + r3, _, _, by rw [List.map_append]; rfl, ⟨?_, ?_, ?_⟩, ?_, by omega, by omega⟩
    · rw [List.length_append, e1]; rfl
    · rw [List.pairwise_append]
      refine ⟨e2, List.pairwise_singleton _ _, fun x hx y hy => ?_⟩
      rw [List.mem_singleton] at hy
      subst hy
      have := e4 x hx
      grind
    · intro r hr
      rcases List.mem_append.mp hr with hr | hr
      · exact e3 r hr
      · rw [List.mem_singleton] at hr
        subst hr
        exact bd_mk (by omega) (by omega) (by omega)
    · intro r hr
      have hh : ((here + 1 : Int) : Rat) ≤ ((here + 1 + r3 : Int) : Rat) := by
        have : here + 1 ≤ here + 1 + r3 := by omega
        exact_mod_cast this
      have hh2 : (here : Rat) ≤ ((here + 1 : Int) : Rat) := by
        have : here ≤ here + 1 := by omega
        exact_mod_cast this
      rcases List.mem_append.mp hr with hr | hr
      · have := e4 r hr
        grind
      · rw [List.mem_singleton] at hr
        subst hr
        grind
  · rintro ρ ⟨rs, here, x4, x5, rfl, hd, _⟩
    rw [show (L3.rangeT 0 m).length = m by simp [L3.rangeT]] at hd
    simp only [wSs, wS, w, mk, bOf, wEs, wP, wI, wIfs, wAnd, wOr, rd, L3.startT, frz, frz1, List.foldl, List.map, List.length, endsOf, List.cons_append, List.nil_append, List.replicate, List.set, Co.w, Bo.w, Bf.w, wCmp, wGcd, wFdv, wNeg, wMul, wAdd, wSub, wMod, wPar, Ms.fl, wMs, setM, Tg.w, wTup_cons, wTup_nil, wLcE, wF, List.getElem?_cons_zero, List.getElem?_cons_succ, List.set_cons_zero, List.set_cons_succ, Nat.reduceSub, Nat.reduceAdd, List.length_cons, List.length_nil, List.map_cons, List.map_nil, List.foldl_nil, List.replicate_succ, List.replicate_zero, Nat.reduceEqDiff, if_false, if_true, T.bl.injEq, T.int.injEq, T.tup.injEq, T.lst.injEq, exists_eq_left', true_or, and_true, true_and, reduceCtorEq, reduceIte, decide_eq_true_eq, seqT, Option.some.injEq, wipeT, wRev, wSl, false_or, or_true, bneF, bneT, Int.toNat_natCast, okB_int, okB_non, okB_rT, okB_rTs, okB_rTt, ownL, wLt, wIn, inT_rTs, okE_int, okE_str, okE_rT, okE_rTs, okE_rTt, okE_nil, tyIs, wListF, wCatF, timesT]
    exact q rs hd
end LawP

namespace LawP
open PySem PySem.Spec PyProof.Rows L2 L3
def rowR (ps : List Rat) (g : Nat) (fs : List Rat) : List Rat := (if 0 < g then [ps.getD (g - 1) 0] else []) ++ fs ++ (ps.drop g).take 1
def stepsR (row : List Rat) : List Rat := (List.range (row.length - 1)).map fun k => row.getD (k + 1) 0 - row.getD k 0
def evenB (ps : List Rat) (g : Nat) (fs : List Rat) : Bool :=
  if 0 < g ∧ g < ps.length then (stepsR (rowR ps g fs)).all fun s => decide (s = (stepsR (rowR ps g fs)).getD 0 0) else (stepsR (rowR ps g fs)).all fun s => decide (s = 1)
def sp_even : VSp := fun ds Q _ => ∃ (ps : List Rat) (g : Nat) (fs : List Rat), ds = [.tup (ps.map rT), .int g, .lst (fs.map rT)] ∧ (∀ r ∈ ps, bd 90 r) ∧ (∀ r ∈ fs, bd 400 r) ∧ ps.length ≤ 100 ∧ fs.length ≤ 100 ∧ g ≤ ps.length ∧ Q (.bl (evenB ps g fs))
theorem cut_nat {xs : List T} {i j : Nat} : cutT xs (some (i : Int)) (some (j : Int)) = (xs.drop (min i xs.length)).take (min j xs.length - min i xs.length) := by
  unfold cutT
  rw [HT.sIx_nat, HT.sIx_nat]
theorem cut_one {ps : List Rat} {g : Nat} (hg : g ≤ ps.length) : cutT (ps.map rT) (some (g : Int)) (some ((g : Int) + 1)) = ((ps.drop g).take 1).map rT := by
  rw [show (g : Int) + 1 = ((g + 1 : Nat) : Int) by omega, cut_nat, List.length_map, Nat.min_eq_left hg, ← List.map_drop, ← List.map_take]
  by_cases h : g + 1 ≤ ps.length
  · rw [Nat.min_eq_left h, show g + 1 - g = 1 by omega]
  · have e : ps.drop g = [] := List.drop_eq_nil_of_le (by omega)
    rw [e, List.take_nil, List.take_nil]
theorem cut_low {ps : List Rat} {g : Nat} (hg : g ≤ ps.length) (h0 : 0 < g) : cutT (ps.map rT) (some ((g : Int) - 1)) (some (g : Int)) = [ps.getD (g - 1) 0].map rT := by
  rw [show (g : Int) - 1 = ((g - 1 : Nat) : Int) by omega, cut_nat, List.length_map, Nat.min_eq_left hg, Nat.min_eq_left (by omega : g - 1 ≤ ps.length), ← List.map_drop, ← List.map_take, show g - (g - 1) = 1 by omega]
  congr 1
  have hx := getD_of (rs := ps) (j := g - 1) (by omega)
  rw [List.drop_eq_getElem_cons (by omega), List.take_succ_cons, List.take_zero]
  congr 1
  rw [List.getElem?_eq_getElem (by omega)] at hx
  exact Option.some.inj hx
theorem blsT_map {α : Type} {f : α → Bool} : ∀ xs : List α, blsT (xs.map fun x => T.bl (f x)) = some (xs.map f)
  | [] => rfl
  | x :: xs => by
    rw [List.map_cons, List.map_cons, blsT, blsT_map xs]
    rfl
def r_even : Ss := match b_l_is_even with
  | .cons _ r => r
  | .nil => .nil
theorem bd_getD {k : Nat} {rs : List Rat} {j : Nat} (h : ∀ r ∈ rs, bd k r) (hj : j < rs.length) : bd k (rs.getD j 0) := h _ (mem_getD hj)
theorem ws_even_rest {G : Gt} (h1 : G "_law_apart" = some ⟨2, 0, sp_apart⟩) {ps fs low : List Rat} {g : Nat} {Q : T → Prop} {E : Ex → Prop} (hlow : low.length ≤ 1) (hb3 : ∀ r ∈ low, bd 90 r) (hb : ∀ r ∈ ps, bd 90 r) (hb2 : ∀ r ∈ fs, bd 400 r) (hl : ps.length ≤ 100) (hl2 : fs.length ≤ 100) (hg : g ≤ ps.length) (q : Q (.bl (if 0 < g ∧ g < ps.length then (stepsR (low ++ fs ++ (ps.drop g).take 1)).all fun s => decide (s = (stepsR (low ++ fs ++ (ps.drop g).take 1)).getD 0 0) else (stepsR (low ++ fs ++ (ps.drop g).take 1)).all fun s => decide (s = 1)))) :
    wSs G r_even [.sh (.tup (ps.map rT)), .sh (.int g), .sh (.lst (fs.map rT)), .sh (.lst (low.map rT)), .un, .un, .un, .un] (endsOf 0 Q E) := by
  simp only [r_even, b_l_is_even, wEq, wSs, wS, w, mk, bOf, wEs, wP, wI, wIfs, wAnd, wOr, rd, L3.startT, frz, frz1, List.foldl, List.map, List.length, endsOf, List.cons_append, List.nil_append, List.replicate, List.set, Co.w, Bo.w, Bf.w, wCmp, wGcd, wFdv, wNeg, wMul, wAdd, wSub, wMod, wPar, Ms.fl, wMs, setM, Tg.w, wTup_cons, wTup_nil, wLcE, wF, List.getElem?_cons_zero, List.getElem?_cons_succ, List.set_cons_zero, List.set_cons_succ, Nat.reduceSub, Nat.reduceAdd, List.length_cons, List.length_nil, List.map_cons, List.map_nil, List.foldl_nil, List.replicate_succ, List.replicate_zero, Nat.reduceEqDiff, if_false, if_true, T.bl.injEq, T.int.injEq, T.tup.injEq, T.lst.injEq, exists_eq_left', true_or, and_true, true_and, reduceCtorEq, reduceIte, decide_eq_true_eq, seqT, Option.some.injEq, wipeT, wRev, wSl, false_or, or_true, bneF, bneT, Int.toNat_natCast, okB_int, okB_non, okB_rT, okB_rTs, okB_rTt, ownL, wLt, wIn, inT_rTs, okE_int, okE_str, okE_rT, okE_rTs, okE_rTt, okE_nil, tyIs, wListF, wCatF, timesT]
  rw [cut_one hg]
  rw [← List.map_append, ← List.map_append]
  generalize hrow : low ++ fs ++ (ps.drop g).take 1 = row at q
  have hrl : row.length ≤ 102 := by
    rw [← hrow, List.length_append, List.length_append]
    have := List.length_take_le 1 (ps.drop g)
    omega
  have hrb : ∀ r ∈ row, bd 400 r := by
    intro r hr
    rw [← hrow] at hr
    rcases List.mem_append.mp hr with hr | hr
    · rcases List.mem_append.mp hr with hr | hr
      · exact (hb3 r hr).mono (by decide)
      · exact hb2 r hr
    · exact (hb r (List.mem_of_mem_drop (List.mem_of_mem_take hr))).mono (by decide)
  have s1 : (low.map rT).length + (fs.map rT).length ≤ sizeLine := by
    rw [List.length_map, List.length_map]
    exact Nat.le_of_lt (sz1000 (by omega))
  have s2 : ((low ++ fs).map rT).length + (((ps.drop g).take 1).map rT).length ≤ sizeLine := by
    rw [List.length_map, List.length_map, List.length_append]
    have := List.length_take_le 1 (ps.drop g)
    exact Nat.le_of_lt (sz1000 (by omega))
  have s3 : -(2 ^ 62 : Int) ≤ ((row.map rT).length : Int) - 1 := by rw [List.length_map]; omega
  have s4 : ((row.map rT).length : Int) - 1 < 2 ^ 62 := by rw [List.length_map]; omega
  refine ⟨s1, s2, s3, s4, ?_⟩
  have e1 : (((row.map rT).length : Int) - 1).toNat = row.length - 1 := by rw [List.length_map]; omega
  rw [e1]
  unfold L3.rangeT
  refine wLc_each (F := fun k => rT (row.getD (k + 1) 0 - row.getD k 0)) _ (by rw [List.length_range]; exact sz1000 (by omega)) (fun i hi K K' N k => ?_) ?_
  · rw [List.mem_range] at hi
    simp only [e_l_is_even_3, wIx, wCall_of h1, wSs, wS, w, mk, bOf, wEs, wP, wI, wIfs, wAnd, wOr, rd, L3.startT, frz, frz1, List.foldl, List.map, List.length, endsOf, List.cons_append, List.nil_append, List.replicate, List.set, Co.w, Bo.w, Bf.w, wCmp, wGcd, wFdv, wNeg, wMul, wAdd, wSub, wMod, wPar, Ms.fl, wMs, setM, Tg.w, wTup_cons, wTup_nil, wLcE, wF, List.getElem?_cons_zero, List.getElem?_cons_succ, List.set_cons_zero, List.set_cons_succ, Nat.reduceSub, Nat.reduceAdd, List.length_cons, List.length_nil, List.map_cons, List.map_nil, List.foldl_nil, List.replicate_succ, List.replicate_zero, Nat.reduceEqDiff, if_false, if_true, T.bl.injEq, T.int.injEq, T.tup.injEq, T.lst.injEq, exists_eq_left', true_or, and_true, true_and, reduceCtorEq, reduceIte, decide_eq_true_eq, seqT, Option.some.injEq, wipeT, wRev, wSl, false_or, or_true, bneF, bneT, Int.toNat_natCast, okB_int, okB_non, okB_rT, okB_rTs, okB_rTt, ownL, wLt, wIn, inT_rTs, okE_int, okE_str, okE_rT, okE_rTs, okE_rTt, okE_nil, tyIs, wListF, wCatF, timesT]
    refine ⟨_, by rw [show (0 : Int) + (i : Int) + 1 = ((i + 1 : Nat) : Int) by omega]; exact atI_pts (getD_of (by omega)), _, by rw [Int.zero_add]; exact atI_pts (getD_of (by omega)), _, _, rfl, bd_getD hrb (by omega), bd_getD hrb (by omega), k⟩
  · have e2 : (List.range (row.length - 1)).map (fun k => rT (row.getD (k + 1) 0 - row.getD k 0)) = (stepsR row).map rT := by
      unfold stepsR
      rw [List.map_map]
      rfl
    rw [e2]
    have hsl : (stepsR row).length < sizeLine := by
      unfold stepsR
      rw [List.length_map, List.length_range]
      exact sz1000 (by omega)
    have e11 : T.tup [.int 1, .int 1] = rT 1 := rfl
    have one : ∀ {x0 x1 x2 x3 x4 x5 x6 x7 : Slot}, (Q (.bl ((stepsR row).all fun s => decide (s = 1)))) →
        wLc (fun d ρ R => R (List.set ρ 7 (Slot.sh d))) (fun x Q x_1 => Q true) (w G e_l_is_even_1).fst [x0, x1, x2, x3, x4, x5, x6, x7] (fun r => ∃ bs, blsT r = some bs ∧ Q (T.bl (bs.all id))) ((stepsR row).map rT) [] := fun q => by
      refine wLc_each (F := fun s => .bl (decide (s = 1))) _ hsl (fun s hs K K' N k => ?_) ⟨_, blsT_map _, by rw [List.all_map]; exact q⟩
      simp only [e_l_is_even_1, wEq, e11, eqT_rT, wSs, wS, w, mk, bOf, wEs, wP, wI, wIfs, wAnd, wOr, rd, L3.startT, frz, frz1, List.foldl, List.map, List.length, endsOf, List.cons_append, List.nil_append, List.replicate, List.set, Co.w, Bo.w, Bf.w, wCmp, wGcd, wFdv, wNeg, wMul, wAdd, wSub, wMod, wPar, Ms.fl, wMs, setM, Tg.w, wTup_cons, wTup_nil, wLcE, wF, List.getElem?_cons_zero, List.getElem?_cons_succ, List.set_cons_zero, List.set_cons_succ, Nat.reduceSub, Nat.reduceAdd, List.length_cons, List.length_nil, List.map_cons, List.map_nil, List.foldl_nil, List.replicate_succ, List.replicate_zero, Nat.reduceEqDiff, if_false, if_true, T.bl.injEq, T.int.injEq, T.tup.injEq, T.lst.injEq, exists_eq_left', true_or, and_true, true_and, reduceCtorEq, reduceIte, decide_eq_true_eq, seqT, Option.some.injEq, wipeT, wRev, wSl, false_or, or_true, bneF, bneT, Int.toNat_natCast, okB_int, okB_non, okB_rT, okB_rTs, okB_rTt, ownL, wLt, wIn, inT_rTs, okE_int, okE_str, okE_rT, okE_rTs, okE_rTt, okE_nil, tyIs, wListF, wCatF, timesT]
      exact ⟨by decide, k⟩
    by_cases h0 : 0 < g
    · rw [if_pos (by omega)]
      by_cases h2 : g < ps.length
      · rw [if_pos (by rw [List.length_map]; omega)]
        rw [if_pos ⟨h0, h2⟩] at q
        refine wLc_each (F := fun s => .bl (decide (s = (stepsR row).getD 0 0))) _ hsl (fun s hs K K' N k => ?_) ⟨_, blsT_map _, by rw [List.all_map]; exact q⟩
        simp only [e_l_is_even_2, wEq, wIx, wSs, wS, w, mk, bOf, wEs, wP, wI, wIfs, wAnd, wOr, rd, L3.startT, frz, frz1, List.foldl, List.map, List.length, endsOf, List.cons_append, List.nil_append, List.replicate, List.set, Co.w, Bo.w, Bf.w, wCmp, wGcd, wFdv, wNeg, wMul, wAdd, wSub, wMod, wPar, Ms.fl, wMs, setM, Tg.w, wTup_cons, wTup_nil, wLcE, wF, List.getElem?_cons_zero, List.getElem?_cons_succ, List.set_cons_zero, List.set_cons_succ, Nat.reduceSub, Nat.reduceAdd, List.length_cons, List.length_nil, List.map_cons, List.map_nil, List.foldl_nil, List.replicate_succ, List.replicate_zero, Nat.reduceEqDiff, if_false, if_true, T.bl.injEq, T.int.injEq, T.tup.injEq, T.lst.injEq, exists_eq_left', true_or, and_true, true_and, reduceCtorEq, reduceIte, decide_eq_true_eq, seqT, Option.some.injEq, wipeT, wRev, wSl, false_or, or_true, bneF, bneT, Int.toNat_natCast, okB_int, okB_non, okB_rT, okB_rTs, okB_rTt, ownL, wLt, wIn, inT_rTs, okE_int, okE_str, okE_rT, okE_rTs, okE_rTt, okE_nil, tyIs, wListF, wCatF, timesT]
        refine ⟨_, atI_pts (j := 0) (getD_of (List.length_pos_of_mem hs)), okE_rT, ?_⟩
        rw [eqT_rT]
        exact k
      · rw [if_neg (by rw [List.length_map]; omega)]
        rw [if_neg (by omega)] at q
        exact one q
    · rw [if_neg (by omega)]
      rw [if_neg (by omega)] at q
      exact one q
theorem ws_even {G : Gt} (h1 : G "_law_apart" = some ⟨2, 0, sp_apart⟩) (ds : List T) (Q : T → Prop) (E : Ex → Prop) (h : sp_even ds Q E) : wSs G b_l_is_even (L3.startT ["_law_points", "_law_gap", "_law_found", "_law_low", "_law_row", "_law_steps", "_law_k", "_law_step"] ds) (endsOf 0 Q E) := by
  obtain ⟨ps, g, fs, rfl, hb, hb2, hl, hl2, hg, q⟩ := h
  unfold evenB rowR at q
  have key := fun low a b c => ws_even_rest (low := low) (E := E) (Q := Q) h1 a b hb hb2 hl hl2 hg c
  show wSs G (.cons (.set [] 3 (.ite (.cmp .gt (.var 1) (.int 0)) (.bf .list (.cons (.sl (.var 0) (.at (.bin .sub (.var 1) (.int 1))) (.at (.var 1))) .nil)) (.lst .nil))) r_even) _ _
  generalize r_even = R at *
  simp only [endsOf, true_or, true_and] at key
  simp only [wSs, wS, w, mk, bOf, wEs, wP, wI, wIfs, wAnd, wOr, rd, L3.startT, frz, frz1, List.foldl, List.map, List.length, endsOf, List.cons_append, List.nil_append, List.replicate, List.set, Co.w, Bo.w, Bf.w, wCmp, wGcd, wFdv, wNeg, wMul, wAdd, wSub, wMod, wPar, Ms.fl, wMs, setM, Tg.w, wTup_cons, wTup_nil, wLcE, wF, List.getElem?_cons_zero, List.getElem?_cons_succ, List.set_cons_zero, List.set_cons_succ, Nat.reduceSub, Nat.reduceAdd, List.length_cons, List.length_nil, List.map_cons, List.map_nil, List.foldl_nil, List.replicate_succ, List.replicate_zero, Nat.reduceEqDiff, if_false, if_true, T.bl.injEq, T.int.injEq, T.tup.injEq, T.lst.injEq, exists_eq_left', true_or, and_true, true_and, reduceCtorEq, reduceIte, decide_eq_true_eq, seqT, Option.some.injEq, wipeT, wRev, wSl, false_or, or_true, bneF, bneT, Int.toNat_natCast, okB_int, okB_non, okB_rT, okB_rTs, okB_rTt, ownL, wLt, wIn, inT_rTs, okE_int, okE_str, okE_rT, okE_rTs, okE_rTt, okE_nil, tyIs, wListF, wCatF, timesT]
  by_cases h0 : 0 < g
  · rw [if_pos (by omega), cut_low hg h0]
    rw [if_pos h0] at q
    exact key [ps.getD (g - 1) 0] (by simp) (fun r hr => by rw [List.mem_singleton] at hr; subst hr; exact bd_getD hb (by omega)) q
  · rw [if_neg (by omega)]
    rw [if_neg h0] at q
    exact ⟨Nat.zero_le _, key [] (by simp) (fun r hr => (nomatch hr)) q⟩
end LawP

namespace LawP
open PySem PySem.Spec PyProof.Rows L2 L3
def gapT (ps : List Rat) (x : Rat) : T := if x ∈ ps then .non else .int (((ps.filter fun r => decide (r < x)).length : Nat) : Int)
def sp_gap_of : VSp := fun ds Q _ => ∃ (ps : List Rat) (x : Rat), ds = [.tup (ps.map rT), rT x] ∧ (∀ r ∈ ps, bd 1000 r) ∧ bd 1000 x ∧ ps.length ≤ 1000 ∧ Q (gapT ps x)
def sp_gap_due : VSp := fun ds Q _ => ∃ (ps : List Rat) (x : Rat), ds = [.tup (ps.map rT), rT x] ∧ (∀ r ∈ ps, bd 1000 r) ∧ bd 1000 x ∧ ps.length ≤ 1000 ∧ ps.Pairwise (· < ·) ∧ Q (gapT ps x)
theorem ws_gap_of {G : Gt} (h1 : G "is_before" = some ⟨2, 0, sp_less⟩) (ds : List T) (Q : T → Prop) (E : Ex → Prop) (h : sp_gap_of ds Q E) : wSs G b_gap_of (L3.startT ["points", "point", "one"] ds) (endsOf 0 Q E) := by
  obtain ⟨ps, x, rfl, hb, hx, hl, q⟩ := h
  simp only [b_gap_of, wSs, wS, w, mk, bOf, wEs, wP, wI, wIfs, wAnd, wOr, rd, L3.startT, frz, frz1, List.foldl, List.map, List.length, endsOf, List.cons_append, List.nil_append, List.replicate, List.set, Co.w, Bo.w, Bf.w, wCmp, wGcd, wFdv, wNeg, wMul, wAdd, wSub, wMod, wPar, Ms.fl, wMs, setM, Tg.w, wTup_cons, wTup_nil, wLcE, wF, List.getElem?_cons_zero, List.getElem?_cons_succ, List.set_cons_zero, List.set_cons_succ, Nat.reduceSub, Nat.reduceAdd, List.length_cons, List.length_nil, List.map_cons, List.map_nil, List.foldl_nil, List.replicate_succ, List.replicate_zero, Nat.reduceEqDiff, if_false, if_true, T.bl.injEq, T.int.injEq, T.tup.injEq, T.lst.injEq, exists_eq_left', true_or, and_true, true_and, reduceCtorEq, reduceIte, decide_eq_true_eq, seqT, Option.some.injEq, wipeT, wRev, wSl, false_or, or_true, bneF, bneT, Int.toNat_natCast, okB_int, okB_non, okB_rT, okB_rTs, okB_rTt, ownL, wLt, wIn, inT_rTs, okE_int, okE_str, okE_rT, okE_rTs, okE_rTt, okE_nil, tyIs, wListF, wCatF, timesT]
  unfold gapT at q
  by_cases hm : x ∈ ps
  · rw [if_pos hm]
    rw [if_pos hm] at q
    exact q
  · rw [if_neg hm]
    rw [if_neg hm] at q
    refine wLc_over (p := fun r => decide (r < x)) (F := rT) ps [] (by simpa using sz1000 hl) (fun r hr K K' N k k' => ?_) (by rw [List.nil_append, List.length_map]; exact q)
    simp only [e_gap_of_1, es_gap_of_2, wCall_of h1, wSs, wS, w, mk, bOf, wEs, wP, wI, wIfs, wAnd, wOr, rd, L3.startT, frz, frz1, List.foldl, List.map, List.length, endsOf, List.cons_append, List.nil_append, List.replicate, List.set, Co.w, Bo.w, Bf.w, wCmp, wGcd, wFdv, wNeg, wMul, wAdd, wSub, wMod, wPar, Ms.fl, wMs, setM, Tg.w, wTup_cons, wTup_nil, wLcE, wF, List.getElem?_cons_zero, List.getElem?_cons_succ, List.set_cons_zero, List.set_cons_succ, Nat.reduceSub, Nat.reduceAdd, List.length_cons, List.length_nil, List.map_cons, List.map_nil, List.foldl_nil, List.replicate_succ, List.replicate_zero, Nat.reduceEqDiff, if_false, if_true, T.bl.injEq, T.int.injEq, T.tup.injEq, T.lst.injEq, exists_eq_left', true_or, and_true, true_and, reduceCtorEq, reduceIte, decide_eq_true_eq, seqT, Option.some.injEq, wipeT, wRev, wSl, false_or, or_true, bneF, bneT, Int.toNat_natCast, okB_int, okB_non, okB_rT, okB_rTs, okB_rTt, ownL, wLt, wIn, inT_rTs, okE_int, okE_str, okE_rT, okE_rTs, okE_rTt, okE_nil, tyIs, wListF, wCatF, timesT]
    refine ⟨r, x, rfl, hb r hr, hx, ?_⟩
    refine ⟨_, rfl, ?_⟩
    by_cases hrx : r < x
    · rw [if_pos (decide_eq_true hrx)]
      exact k (decide_eq_true hrx)
    · rw [if_neg (by simpa using hrx)]
      exact k' (decide_eq_false hrx)
theorem filt_at : ∀ {ps : List Rat} {i : Nat} {x y : Rat}, ps.Pairwise (· < ·) → (∀ j z, ps[j]? = some z → j < i → z < x) → ps[i]? = some y → x < y → x ∉ ps ∧ (ps.filter fun r => decide (r < x)).length = i
  | [], i, x, y, _, _, e, _ => by simp at e
  | p :: ps, 0, x, y, hs, _, e, hxy => by
    have e : p = y := by simpa using e
    subst e
    rw [List.pairwise_cons] at hs
    refine ⟨fun hm => ?_, ?_⟩
    · rcases List.mem_cons.mp hm with z | z
      · subst z; exact Rat.lt_irrefl hxy
      · have := hs.1 x z
        grind
    · rw [List.length_eq_zero_iff, List.filter_eq_nil_iff]
      intro r hr
      rcases List.mem_cons.mp hr with z | z
      · subst z
        simp only [decide_eq_true_eq]
        grind
      · have := hs.1 r z
        simp only [decide_eq_true_eq]
        grind
  | p :: ps, i + 1, x, y, hs, hj, e, hxy => by
    have hp : p < x := hj 0 p rfl (by omega)
    rw [List.pairwise_cons] at hs
    obtain ⟨h1, h2⟩ := filt_at (ps := ps) (i := i) hs.2 (fun j z ez hji => hj (j + 1) z (by simpa using ez) (by omega)) (by simpa using e) hxy
    refine ⟨fun hm => ?_, ?_⟩
    · rcases List.mem_cons.mp hm with z | z
      · subst z; exact Rat.lt_irrefl hp
      · exact h1 z
    · rw [List.filter_cons_of_pos (p := fun r => decide (r < x)) (decide_eq_true hp), List.length_cons, h2]
theorem ws_gap_due {G : Gt} (h1 : G "_law_less" = some ⟨2, 0, sp_less⟩) (ds : List T) (Q : T → Prop) (E : Ex → Prop) (h : sp_gap_due ds Q E) : wSs G b_l_gap_due (L3.startT ["_law_points", "_law_point_here", "_law_place", "_law_one"] ds) (endsOf 0 Q E) := by
  obtain ⟨ps, x, rfl, hb, hx, hl, hs, q⟩ := h
  simp only [b_l_gap_due, wSs, wS, w, mk, bOf, wEs, wP, wI, wIfs, wAnd, wOr, rd, L3.startT, frz, frz1, List.foldl, List.map, List.length, endsOf, List.cons_append, List.nil_append, List.replicate, List.set, Co.w, Bo.w, Bf.w, wCmp, wGcd, wFdv, wNeg, wMul, wAdd, wSub, wMod, wPar, Ms.fl, wMs, setM, Tg.w, wTup_cons, wTup_nil, wLcE, wF, List.getElem?_cons_zero, List.getElem?_cons_succ, List.set_cons_zero, List.set_cons_succ, Nat.reduceSub, Nat.reduceAdd, List.length_cons, List.length_nil, List.map_cons, List.map_nil, List.foldl_nil, List.replicate_succ, List.replicate_zero, Nat.reduceEqDiff, if_false, if_true, T.bl.injEq, T.int.injEq, T.tup.injEq, T.lst.injEq, exists_eq_left', true_or, and_true, true_and, reduceCtorEq, reduceIte, decide_eq_true_eq, seqT, Option.some.injEq, wipeT, wRev, wSl, false_or, or_true, bneF, bneT, Int.toNat_natCast, okB_int, okB_non, okB_rT, okB_rTs, okB_rTt, ownL, wLt, wIn, inT_rTs, okE_int, okE_str, okE_rT, okE_rTs, okE_rTt, okE_nil, tyIs, wListF, wCatF, timesT]
  refine wFor_inv (fun i ρ => ∃ x2 x3, ρ = [.sh (.tup (ps.map rT)), .sh (rT x), x2, x3] ∧ ∀ j z, ps[j]? = some z → j < i → z < x) ⟨.un, .un, rfl, fun j z _ h => by omega⟩ ?_ ?_
  · rintro i d ρ K hd ⟨x2, x3, rfl, hj⟩ hK
    obtain ⟨t, ht, rfl⟩ := enumT_at hd
    rw [List.getElem?_map] at ht
    obtain ⟨y, hy, rfl⟩ := Option.map_eq_some_iff.mp ht
    simp only [b_l_gap_due_1, wEq, eqT_rT, wCall_of h1, wSs, wS, w, mk, bOf, wEs, wP, wI, wIfs, wAnd, wOr, rd, L3.startT, frz, frz1, List.foldl, List.map, List.length, endsOf, List.cons_append, List.nil_append, List.replicate, List.set, Co.w, Bo.w, Bf.w, wCmp, wGcd, wFdv, wNeg, wMul, wAdd, wSub, wMod, wPar, Ms.fl, wMs, setM, Tg.w, wTup_cons, wTup_nil, wLcE, wF, List.getElem?_cons_zero, List.getElem?_cons_succ, List.set_cons_zero, List.set_cons_succ, Nat.reduceSub, Nat.reduceAdd, List.length_cons, List.length_nil, List.map_cons, List.map_nil, List.foldl_nil, List.replicate_succ, List.replicate_zero, Nat.reduceEqDiff, if_false, if_true, T.bl.injEq, T.int.injEq, T.tup.injEq, T.lst.injEq, exists_eq_left', true_or, and_true, true_and, reduceCtorEq, reduceIte, decide_eq_true_eq, seqT, Option.some.injEq, wipeT, wRev, wSl, false_or, or_true, bneF, bneT, Int.toNat_natCast, okB_int, okB_non, okB_rT, okB_rTs, okB_rTt, ownL, wLt, wIn, inT_rTs, okE_int, okE_str, okE_rT, okE_rTs, okE_rTt, okE_nil, tyIs, wListF, wCatF, timesT]
    have hym : y ∈ ps := List.mem_of_getElem? hy
    by_cases hyx : y = x
    · rw [if_pos hyx]
      unfold gapT at q
      rw [if_pos (hyx ▸ hym)] at q
      exact q
    · rw [if_neg hyx]
      refine ⟨x, y, rfl, hx, hb y hym, _, rfl, ?_⟩
      by_cases hxy : x < y
      · rw [if_pos (decide_eq_true hxy)]
        obtain ⟨f1, f2⟩ := filt_at hs hj hy hxy
        unfold gapT at q
        rw [if_neg f1, f2] at q
        exact q
      · rw [if_neg (by simpa using hxy)]
        refine hK _ ⟨_, _, rfl, fun j z ez hji => ?_⟩
        by_cases hji' : j = i
        · subst hji'
          rw [hy] at ez
          cases ez
          grind
        · exact hj j z ez (by omega)
  · rintro ρ ⟨x2, x3, rfl, hj⟩
    rw [enumT_len, List.length_map] at hj
    have all : ∀ r ∈ ps, r < x := fun r hr => by
      obtain ⟨j, hj1, hj2⟩ := List.mem_iff_getElem.mp hr
      exact hj j r (by rw [List.getElem?_eq_getElem hj1, hj2]) hj1
    simp only [wSs, wS, w, mk, bOf, wEs, wP, wI, wIfs, wAnd, wOr, rd, L3.startT, frz, frz1, List.foldl, List.map, List.length, endsOf, List.cons_append, List.nil_append, List.replicate, List.set, Co.w, Bo.w, Bf.w, wCmp, wGcd, wFdv, wNeg, wMul, wAdd, wSub, wMod, wPar, Ms.fl, wMs, setM, Tg.w, wTup_cons, wTup_nil, wLcE, wF, List.getElem?_cons_zero, List.getElem?_cons_succ, List.set_cons_zero, List.set_cons_succ, Nat.reduceSub, Nat.reduceAdd, List.length_cons, List.length_nil, List.map_cons, List.map_nil, List.foldl_nil, List.replicate_succ, List.replicate_zero, Nat.reduceEqDiff, if_false, if_true, T.bl.injEq, T.int.injEq, T.tup.injEq, T.lst.injEq, exists_eq_left', true_or, and_true, true_and, reduceCtorEq, reduceIte, decide_eq_true_eq, seqT, Option.some.injEq, wipeT, wRev, wSl, false_or, or_true, bneF, bneT, Int.toNat_natCast, okB_int, okB_non, okB_rT, okB_rTs, okB_rTt, ownL, wLt, wIn, inT_rTs, okE_int, okE_str, okE_rT, okE_rTs, okE_rTt, okE_nil, tyIs, wListF, wCatF, timesT]
    unfold gapT at q
    rw [if_neg (fun hm => Rat.lt_irrefl (all x hm)), List.filter_eq_self.mpr (fun r hr => decide_eq_true (all r hr))] at q
    rw [List.length_map]
    exact q
end LawP

namespace LawP
open PySem PySem.Spec PyProof.Rows L2 L3
/-! ### the plain law -/
theorem row_end {f R : Nat → Rat} {n : Nat} {y : Rat} (hf : ∀ i < n, f i = R i) (hy : y = R n) : (List.range n).map f ++ [y] = (List.range (n + 1)).map R := by
  rw [List.range_succ, List.map_append, hy]
  congr 1
  exact List.map_congr_left fun i hi => hf i (List.mem_range.mp hi)
theorem row_start {f R : Nat → Rat} {n : Nat} {x : Rat} (hf : ∀ i < n, f i = R (i + 1)) (hx : x = R 0) : [x] ++ (List.range n).map f = (List.range (n + 1)).map R := by
  rw [List.range_succ_eq_map, List.map_cons, List.map_map, hx]
  show R 0 :: _ = _
  congr 1
  exact List.map_congr_left fun i hi => hf i (List.mem_range.mp hi)
theorem steps_const {R : Nat → Rat} {c : Rat} (h : ∀ k, R (k + 1) - R k = c) (L : Nat) : ∀ s ∈ stepsR ((List.range L).map R), s = c := by
  intro s hs
  unfold stepsR at hs
  obtain ⟨k, hk, rfl⟩ := List.mem_map.mp hs
  rw [List.mem_range, List.length_map, List.length_range] at hk
  have e : ∀ j, j < L → ((List.range L).map R).getD j 0 = R j := fun j hj => by
    rw [List.getD_eq_getElem?_getD, List.getElem?_map, List.getElem?_range hj]
    rfl
  rw [e _ (by omega), e _ (by omega)]
  exact h k
theorem even_of {ps : List Rat} {g : Nat} {fs : List Rat} {R : Nat → Rat} {c : Rat} {L : Nat} (hr : rowR ps g fs = (List.range L).map R) (h : ∀ k, R (k + 1) - R k = c) (hc : ¬ (0 < g ∧ g < ps.length) → c = 1) : evenB ps g fs = true := by
  have hs := steps_const h L
  rw [← hr] at hs
  unfold evenB
  split
  · rw [List.all_eq_true]
    intro s hs'
    have h0 : (stepsR (rowR ps g fs)).getD 0 0 = c := hs _ (mem_getD (List.length_pos_of_mem hs'))
    rw [h0]
    exact decide_eq_true (hs s hs')
  · rename_i hn
    rw [List.all_eq_true]
    intro s hs'
    rw [hs s hs', hc hn]
    rfl
theorem even_spr {ps : List Rat} {g n : Nat} (hg : g ≤ ps.length) : evenB ps g (spr ps g n) = true := by
  by_cases hp : ps = []
  · subst hp
    have hg : g = 0 := by simpa using hg
    subst hg
    refine even_of (R := fun k => ((k : Nat) : Rat)) (c := 1) (L := n) ?_ (fun k => by push_cast; grind) fun _ => rfl
    unfold rowR spr
    simp only [Nat.lt_irrefl, if_false, List.nil_append, List.drop_nil, List.take_nil, List.append_nil]
    exact List.map_congr_left fun i _ => by unfold sprAt; rw [if_pos rfl]; rfl
  have h0 : 0 < ps.length := List.length_pos_iff.mpr hp
  have tk : ∀ j, j < ps.length → (ps.drop j).take 1 = [ps.getD j 0] := fun j hj => by
    rw [List.drop_eq_getElem_cons hj, List.take_succ_cons, List.take_zero]
    congr 1
    have := getD_of hj
    rw [List.getElem?_eq_getElem hj] at this
    exact Option.some.inj this
  by_cases hg0 : g = 0
  · subst hg0
    refine even_of (R := fun k => ps.getD 0 0 + (((k : Nat) : Rat) - (n : Rat))) (c := 1) (L := n + 1) ?_ (fun k => by push_cast; grind) fun _ => rfl
    unfold rowR spr
    rw [if_neg (by omega), List.nil_append, tk 0 h0]
    refine row_end (fun i hi => ?_) (by grind)
    unfold sprAt
    rw [if_neg hp, if_pos rfl]
    push_cast
    rfl
  by_cases hgl : g = ps.length
  · refine even_of (R := fun k => ps.getD (g - 1) 0 + ((k : Nat) : Rat)) (c := 1) (L := n + 1) ?_ (fun k => by push_cast; grind) fun _ => rfl
    unfold rowR spr
    rw [if_pos (by omega), List.drop_eq_nil_of_le (by omega), List.take_nil, List.append_nil]
    refine row_start (fun i hi => ?_) (by push_cast; grind)
    unfold sprAt
    rw [if_neg hp, if_neg hg0, if_pos hgl]
    push_cast
    rfl
  · have hn : ((n : Nat) : Rat) + 1 ≠ 0 := by
      have : ((n + 1 : Nat) : Rat) ≠ 0 := by
        intro z
        have := Rat.natCast_eq_zero_iff.mp z
        omega
      push_cast at this
      exact this
    generalize ha : ps.getD (g - 1) 0 = a
    generalize hb : ps.getD g 0 = b
    refine even_of (R := fun k => a * ((n : Rat) + 1 - ((k : Nat) : Rat)) / ((n : Rat) + 1) + b * ((k : Nat) : Rat) / ((n : Rat) + 1)) (c := (b - a) / ((n : Rat) + 1)) (L := n + 1 + 1) ?_ (fun k => ?_) (fun h => absurd ⟨by omega, by omega⟩ h)
    · unfold rowR spr
      rw [if_pos (by omega), tk g (by omega), ha, hb]
      rw [row_start (R := fun k => a * ((n : Rat) + 1 - ((k : Nat) : Rat)) / ((n : Rat) + 1) + b * ((k : Nat) : Rat) / ((n : Rat) + 1)) (fun i hi => ?_) ?_]
      · refine row_end (fun i hi => rfl) ?_
        push_cast
        grind
      · push_cast
        grind
      · unfold sprAt
        rw [if_neg hp, if_neg hg0, if_neg hgl, ha, hb]
        push_cast
        rfl
    · push_cast
      generalize (n : Rat) = m at *
      generalize (k : Rat) = j at *
      grind
theorem pw_le {ps : List Rat} (hs : ps.Pairwise (· < ·)) {i j : Nat} (h : i ≤ j) (hj : j < ps.length) : ps.getD i 0 ≤ ps.getD j 0 := by
  rcases Nat.lt_or_eq_of_le h with h | h
  · have := List.pairwise_iff_getElem.mp hs i j (by omega) hj h
    rw [List.getD_eq_getElem?_getD, List.getD_eq_getElem?_getD, List.getElem?_eq_getElem (by omega), List.getElem?_eq_getElem hj]
    exact Rat.le_of_lt this
  · rw [h]
    exact Rat.le_refl
theorem pw_lt {ps : List Rat} (hs : ps.Pairwise (· < ·)) {i j : Nat} (h : i < j) (hj : j < ps.length) : ps.getD i 0 < ps.getD j 0 := by
  have := List.pairwise_iff_getElem.mp hs i j (by omega) hj h
  rw [List.getD_eq_getElem?_getD, List.getD_eq_getElem?_getD, List.getElem?_eq_getElem (by omega), List.getElem?_eq_getElem hj]
  exact this
theorem gap_spr {ps : List Rat} {g n : Nat} (hs : ps.Pairwise (· < ·)) (hg : g ≤ ps.length) : ∀ f ∈ spr ps g n, gapT ps f = .int (g : Int) := by
  intro f hf
  unfold spr at hf
  obtain ⟨i, hi, rfl⟩ := List.mem_map.mp hf
  rw [List.mem_range] at hi
  unfold sprAt
  by_cases hp : ps = []
  · subst hp
    have hg : g = 0 := by simpa using hg
    subst hg
    rfl
  have h0 : 0 < ps.length := List.length_pos_iff.mpr hp
  rw [if_neg hp]
  by_cases hg0 : g = 0
  · subst hg0
    rw [if_pos rfl]
    have hlt : (((i : Int) - (n : Int) : Int) : Rat) < 0 := by
      have : ((i : Int) - (n : Int)) < 0 := by omega
      exact_mod_cast this
    obtain ⟨f1, f2⟩ := filt_at (i := 0) (x := ps.getD 0 0 + (((i : Int) - (n : Int) : Int) : Rat)) hs (fun j z _ h => by omega) (getD_of h0) (by grind)
    unfold gapT
    rw [if_neg f1, f2]
  rw [if_neg hg0]
  by_cases hgl : g = ps.length
  · rw [if_pos hgl]
    have hgt : (0 : Rat) < (((i : Int) + 1 : Int) : Rat) := by
      have : (0 : Int) < (i : Int) + 1 := by omega
      exact_mod_cast this
    have all : ∀ r ∈ ps, r < ps.getD (g - 1) 0 + (((i : Int) + 1 : Int) : Rat) := fun r hr => by
      obtain ⟨j, hj1, hj2⟩ := List.mem_iff_getElem.mp hr
      have := pw_le hs (i := j) (j := g - 1) (by omega) (by omega)
      rw [List.getD_eq_getElem?_getD, List.getElem?_eq_getElem hj1, hj2] at this
      have this : r ≤ ps.getD (g - 1) 0 := this
      grind
    unfold gapT
    rw [if_neg (fun hm => Rat.lt_irrefl (all _ hm)), List.filter_eq_self.mpr (fun r hr => decide_eq_true (all r hr)), hgl]
  · rw [if_neg hgl]
    have hab := pw_lt hs (i := g - 1) (j := g) (by omega) (by omega)
    have hn : (0 : Rat) < (((n : Int) + 1 : Int) : Rat) := by
      have : (0 : Int) < (n : Int) + 1 := by omega
      exact_mod_cast this
    have hi0 : (0 : Rat) < (((i : Int) + 1 : Int) : Rat) := by
      have : (0 : Int) < (i : Int) + 1 := by omega
      exact_mod_cast this
    have hi1 : (((i : Int) + 1 : Int) : Rat) < (((n : Int) + 1 : Int) : Rat) := by
      have : (i : Int) + 1 < (n : Int) + 1 := by omega
      exact_mod_cast this
    have key : ∀ a b m j : Rat, a < b → 0 < m → 0 < j → j < m → a < a * (m - j) / m + b * j / m ∧ a * (m - j) / m + b * j / m < b := by
      intro a b m j h1 h2 h3 h4
      have e : a * (m - j) / m + b * j / m = (a * (m - j) + b * j) / m := by grind
      rw [e, Rat.lt_div_iff h2, Rat.div_lt_iff h2]
      have p1 : 0 < (b - a) * j := Rat.mul_pos (by grind) h3
      have p2 : 0 < (b - a) * (m - j) := Rat.mul_pos (by grind) (by grind)
      constructor <;> grind
    obtain ⟨k1, k2⟩ := key _ _ _ _ hab hn hi0 hi1
    generalize hx : ps.getD (g - 1) 0 * ((((n : Int) + 1 : Int) : Rat) - (((i : Int) + 1 : Int) : Rat)) / (((n : Int) + 1 : Int) : Rat) + ps.getD g 0 * (((i : Int) + 1 : Int) : Rat) / (((n : Int) + 1 : Int) : Rat) = x at *
    obtain ⟨f1, f2⟩ := filt_at (i := g) (x := x) hs (fun j z ez hj => by
      have := pw_le hs (i := j) (j := g - 1) (by omega) (by omega)
      rw [List.getD_eq_getElem?_getD, ez] at this
      have this : z ≤ ps.getD (g - 1) 0 := this
      grind) (getD_of (by omega)) k2
    unfold gapT
    rw [if_neg f1, f2]
theorem bd_over {k : Nat} {r : Rat} {m : Int} (h : bd k r) (h0 : 0 < m) (hm : m < 2 ^ k) : bd (k + k) (r / (m : Rat)) := by
  have e : r / (m : Rat) = r * mkRat 1 m.toNat := by
    rw [mk_int h0]
    have : (m : Rat) ≠ 0 := by
      intro z
      have := Rat.intCast_eq_zero_iff.mp z
      omega
    push_cast
    grind
  rw [e]
  have h2 : (1 : Nat) < 2 ^ k := by
    have : (0 : Nat) < k := by
      rcases Nat.eq_zero_or_pos k with z | z
      · subst z
        simp at hm
        omega
      · exact z
    exact Nat.one_lt_two_pow (by omega)
  exact bd_mul h (bd_mk (by simpa using h2) (by
    have : (m.toNat : Int) < ((2 ^ k : Nat) : Int) := by
      rw [Int.toNat_of_nonneg (by omega)]
      exact_mod_cast hm
    exact_mod_cast this) (by omega))
theorem bd_spr {ps : List Rat} {g n : Nat} (hb : ∀ r ∈ ps, bd 20 r) (hg : g ≤ ps.length) (hn : n ≤ 1000) : ∀ f ∈ spr ps g n, bd 400 f := by
  intro f hf
  unfold spr at hf
  obtain ⟨i, hi, rfl⟩ := List.mem_map.mp hf
  rw [List.mem_range] at hi
  unfold sprAt
  have bi : ∀ z : Int, z.natAbs < 2 ^ 20 → bd 20 (z : Rat) := fun z h => bd_int h (by decide)
  by_cases hp : ps = []
  · rw [if_pos hp]
    exact (bi _ (by omega)).mono (by decide)
  have h0 : 0 < ps.length := List.length_pos_iff.mpr hp
  rw [if_neg hp]
  by_cases hg0 : g = 0
  · rw [if_pos hg0]
    exact (bd_add (bd_getD hb h0) (bi _ (by omega))).mono (by decide)
  rw [if_neg hg0]
  by_cases hgl : g = ps.length
  · rw [if_pos hgl]
    exact (bd_add (bd_getD hb (by omega)) (bi _ (by omega))).mono (by decide)
  · rw [if_neg hgl]
    have e : ((((n : Int) + 1 : Int) : Rat) - (((i : Int) + 1 : Int) : Rat)) = (((n : Int) - (i : Int) : Int) : Rat) := by
      push_cast
      grind
    rw [e]
    refine (bd_add (k := 80) (bd_over (k := 40) (bd_mul (bd_getD hb (by omega)) (bi _ (by omega))) (by omega) (by omega)) (bd_over (k := 40) (bd_mul (bd_getD hb (by omega)) (bi _ (by omega))) (by omega) (by omega))).mono (by decide)
end LawP

namespace LawP
open PySem PySem.Spec PyProof.Rows L2 L3
theorem shT_same {d d' : T} (h : d = d') : L3.eqT (.str (shT d)) (.str (shT d')) = true := by
  rw [h, eqT_str]
  exact decide_eq_true rfl
theorem wNe_pass {d d' : T} {A B : Prop} (h1 : okE d d' = true) (h2 : L3.eqT d d' = true) (k : B) : wEq true d d' (fun d => ∃ b, d = T.bl b ∧ if b = true then A else B) :=
  ⟨h1, _, rfl, by rw [h2]; exact k⟩
theorem eqT_same {d : T} (h : okB d = true) : L3.eqT d d = true := by
  unfold L3.eqT
  exact PySem.SeqAt.eqv_refl _ (okD_lay h).1
theorem flat_one {n : Nat} {x : T} : (List.replicate n [x]).flatten = List.replicate n x := by
  induction n with
  | zero => rfl
  | succ n ih => rw [List.replicate_succ, List.flatten_cons, ih, List.replicate_succ]; rfl
theorem sz_rep {x : T} (h : szT x = 1) : ∀ n, szTs (List.replicate n x) = n
  | 0 => rfl
  | n + 1 => by
    rw [List.replicate_succ, szTs, sz_rep h n, h]
    omega
theorem rpOk_rep {n : Nat} {x : T} (h : rpD 39 x = true) (hz : szT x = 1) (hn : n ≤ 1000) : rpOk (.lst (List.replicate n x)) := by
  refine ⟨List.all_eq_true.mpr fun y hy => ?_, ?_⟩
  · rw [List.eq_of_mem_replicate hy]; exact h
  · show 1 + szTs (List.replicate n x) ≤ 8000
    rw [sz_rep hz]; omega
theorem rpOk_gap {ps : List Rat} {x : Rat} (h : ps.length ≤ 1000) : rpOk (gapT ps x) := by
  unfold gapT
  split
  · exact ⟨rfl, by decide⟩
  · have hl : (ps.filter fun r => decide (r < x)).length ≤ ps.length := List.length_filter_le _ _
    refine ⟨decide_eq_true ?_, by show 1 ≤ 8000; decide⟩
    exact Nat.lt_of_lt_of_le (PySem.Flt.log2_lt_of (k := 20) (by decide) (by rw [Int.natAbs_natCast]; omega)) (by decide)
theorem spr_len {ps : List Rat} {g n : Nat} : (spr ps g n).length = n := by simp [spr]
structure Gs (G : Gt) : Prop where
  op : G "_law_open_cells" = some ⟨1, 0, spOpen⟩
  pick : G "_law_pick" = some ⟨2, 0, spPick⟩
  draw : G "_law_draw_points" = some ⟨2, 0, sp_draw⟩
  spread : G "spread" = some ⟨3, 1, sp_spread⟩
  lspread : G "_law_spread" = some ⟨3, 0, sp_spread⟩
  even : G "_law_is_even" = some ⟨3, 0, sp_even⟩
  gap : G "gap_of" = some ⟨2, 0, sp_gap_of⟩
  due : G "_law_gap_due" = some ⟨2, 0, sp_gap_due⟩
theorem ws_law {G : Gt} (g : Gs G) (ds : List T) (Q : T → Prop) (E : Ex → Prop) (h : spLaw ds Q E) : wSs G b_law (L3.startT ["_law_script", "_law_source", "_law_lap", "_law_points", "_law_gap", "_law_n", "_law_found", "_law_one"] ds) (endsOf 0 Q E) := by
  obtain ⟨a, rfl, q⟩ := h
  simp only [b_law, wCall_of g.op, wSs, wS, w, mk, bOf, wEs, wP, wI, wIfs, wAnd, wOr, rd, L3.startT, frz, frz1, List.foldl, List.map, List.length, endsOf, List.cons_append, List.nil_append, List.replicate, List.set, Co.w, Bo.w, Bf.w, wCmp, wGcd, wFdv, wNeg, wMul, wAdd, wSub, wMod, wPar, Ms.fl, wMs, setM, Tg.w, wTup_cons, wTup_nil, wLcE, wF, List.getElem?_cons_zero, List.getElem?_cons_succ, List.set_cons_zero, List.set_cons_succ, Nat.reduceSub, Nat.reduceAdd, List.length_cons, List.length_nil, List.map_cons, List.map_nil, List.foldl_nil, List.replicate_succ, List.replicate_zero, Nat.reduceEqDiff, if_false, if_true, T.bl.injEq, T.int.injEq, T.tup.injEq, T.lst.injEq, exists_eq_left', true_or, and_true, true_and, reduceCtorEq, reduceIte, decide_eq_true_eq, seqT, Option.some.injEq, wipeT, wRev, wSl, false_or, or_true, bneF, bneT, Int.toNat_natCast, okB_int, okB_non, okB_rT, okB_rTs, okB_rTt, ownL, wLt, wIn, inT_rTs, okE_int, okE_str, okE_rT, okE_rTs, okE_rTt, okE_nil, tyIs, wListF, wCatF, timesT]
  refine ⟨a, rfl, fun b => ?_⟩
  refine ⟨by omega, by omega, ?_⟩
  refine wFor_inv (fun i ρ => ∃ x2 x3 x4 x5 x6 x7, ρ = [.sh (.src 0 a), .sh (.src 1 b), x2, x3, x4, x5, x6, x7]) ⟨_, _, _, _, _, _, rfl⟩ ?_ ?_
  · rintro i d ρ K hd ⟨x2, x3, x4, x5, x6, x7, rfl⟩ hK
    simp only [b_law_5, wCall_of g.pick, wCall_of g.draw, wSs, wS, w, mk, bOf, wEs, wP, wI, wIfs, wAnd, wOr, rd, L3.startT, frz, frz1, List.foldl, List.map, List.length, endsOf, List.cons_append, List.nil_append, List.replicate, List.set, Co.w, Bo.w, Bf.w, wCmp, wGcd, wFdv, wNeg, wMul, wAdd, wSub, wMod, wPar, Ms.fl, wMs, setM, Tg.w, wTup_cons, wTup_nil, wLcE, wF, List.getElem?_cons_zero, List.getElem?_cons_succ, List.set_cons_zero, List.set_cons_succ, Nat.reduceSub, Nat.reduceAdd, List.length_cons, List.length_nil, List.map_cons, List.map_nil, List.foldl_nil, List.replicate_succ, List.replicate_zero, Nat.reduceEqDiff, if_false, if_true, T.bl.injEq, T.int.injEq, T.tup.injEq, T.lst.injEq, exists_eq_left', true_or, and_true, true_and, reduceCtorEq, reduceIte, decide_eq_true_eq, seqT, Option.some.injEq, wipeT, wRev, wSl, false_or, or_true, bneF, bneT, Int.toNat_natCast, okB_int, okB_non, okB_rT, okB_rTs, okB_rTt, ownL, wLt, wIn, inT_rTs, okE_int, okE_str, okE_rT, okE_rTs, okE_rTt, okE_nil, tyIs, wListF, wCatF, timesT]
    refine ⟨b, 5, rfl, by decide, fun r hr0 hr1 => ?_⟩
    obtain ⟨m, rfl⟩ : ∃ m : Nat, r = (m : Int) := ⟨r.toNat, by omega⟩
    refine ⟨b, m, rfl, by omega, fun ps hps => ?_⟩
    obtain ⟨hm, hs, hb⟩ := hps
    have hm4 : m ≤ 4 := by omega
    simp only [wSs, wS, w, mk, bOf, wEs, wP, wI, wIfs, wAnd, wOr, rd, L3.startT, frz, frz1, List.foldl, List.map, List.length, endsOf, List.cons_append, List.nil_append, List.replicate, List.set, Co.w, Bo.w, Bf.w, wCmp, wGcd, wFdv, wNeg, wMul, wAdd, wSub, wMod, wPar, Ms.fl, wMs, setM, Tg.w, wTup_cons, wTup_nil, wLcE, wF, List.getElem?_cons_zero, List.getElem?_cons_succ, List.set_cons_zero, List.set_cons_succ, Nat.reduceSub, Nat.reduceAdd, List.length_cons, List.length_nil, List.map_cons, List.map_nil, List.foldl_nil, List.replicate_succ, List.replicate_zero, Nat.reduceEqDiff, if_false, if_true, T.bl.injEq, T.int.injEq, T.tup.injEq, T.lst.injEq, exists_eq_left', true_or, and_true, true_and, reduceCtorEq, reduceIte, decide_eq_true_eq, seqT, Option.some.injEq, wipeT, wRev, wSl, false_or, or_true, bneF, bneT, Int.toNat_natCast, okB_int, okB_non, okB_rT, okB_rTs, okB_rTt, ownL, wLt, wIn, inT_rTs, okE_int, okE_str, okE_rT, okE_rTs, okE_rTt, okE_nil, tyIs, wListF, wCatF, timesT]
    have hl : ((ps.map rT).length : Int) = m := by rw [List.length_map, hm]
    rw [hl]
    refine ⟨by omega, by omega, ?_⟩
    refine wFor_inv (fun i ρ => ∃ x2 x4 x5 x6 x7, ρ = [.sh (.src 0 a), .sh (.src 1 b), x2, .sh (.tup (ps.map rT)), x4, x5, x6, x7]) ⟨_, _, _, _, _, rfl⟩ ?_ ?_
    · rintro gi d ρ K2 hd ⟨x2, x4, x5, x6, x7, rfl⟩ hK2
      obtain ⟨hgi, rfl⟩ := rangeT_at hd
      have hg : gi ≤ ps.length := by omega
      simp only [b_law_4, wCall_of g.pick, wCallF_of g.spread, wSs, wS, w, mk, bOf, wEs, wP, wI, wIfs, wAnd, wOr, rd, L3.startT, frz, frz1, List.foldl, List.map, List.length, endsOf, List.cons_append, List.nil_append, List.replicate, List.set, Co.w, Bo.w, Bf.w, wCmp, wGcd, wFdv, wNeg, wMul, wAdd, wSub, wMod, wPar, Ms.fl, wMs, setM, Tg.w, wTup_cons, wTup_nil, wLcE, wF, List.getElem?_cons_zero, List.getElem?_cons_succ, List.set_cons_zero, List.set_cons_succ, Nat.reduceSub, Nat.reduceAdd, List.length_cons, List.length_nil, List.map_cons, List.map_nil, List.foldl_nil, List.replicate_succ, List.replicate_zero, Nat.reduceEqDiff, if_false, if_true, T.bl.injEq, T.int.injEq, T.tup.injEq, T.lst.injEq, exists_eq_left', true_or, and_true, true_and, reduceCtorEq, reduceIte, decide_eq_true_eq, seqT, Option.some.injEq, wipeT, wRev, wSl, false_or, or_true, bneF, bneT, Int.toNat_natCast, okB_int, okB_non, okB_rT, okB_rTs, okB_rTt, ownL, wLt, wIn, inT_rTs, okE_int, okE_str, okE_rT, okE_rTs, okE_rTt, okE_nil, tyIs, wListF, wCatF, timesT]
      refine ⟨b, 7, rfl, by decide, fun r hr0 hr1 => ?_⟩
      obtain ⟨n, rfl⟩ : ∃ n : Nat, r = (n : Int) := ⟨r.toNat, by omega⟩
      have hn : n ≤ 6 := by omega
      rw [Int.zero_add]
      refine ⟨ps, gi, n, rfl, fun r hr => (hb r hr).mono (by decide), by omega, hg, by omega, ?_⟩
      simp only [wSs, wS, w, mk, bOf, wEs, wP, wI, wIfs, wAnd, wOr, rd, L3.startT, frz, frz1, List.foldl, List.map, List.length, endsOf, List.cons_append, List.nil_append, List.replicate, List.set, Co.w, Bo.w, Bf.w, wCmp, wGcd, wFdv, wNeg, wMul, wAdd, wSub, wMod, wPar, Ms.fl, wMs, setM, Tg.w, wTup_cons, wTup_nil, wLcE, wF, List.getElem?_cons_zero, List.getElem?_cons_succ, List.set_cons_zero, List.set_cons_succ, Nat.reduceSub, Nat.reduceAdd, List.length_cons, List.length_nil, List.map_cons, List.map_nil, List.foldl_nil, List.replicate_succ, List.replicate_zero, Nat.reduceEqDiff, if_false, if_true, T.bl.injEq, T.int.injEq, T.tup.injEq, T.lst.injEq, exists_eq_left', true_or, and_true, true_and, reduceCtorEq, reduceIte, decide_eq_true_eq, seqT, Option.some.injEq, wipeT, wRev, wSl, false_or, or_true, bneF, bneT, Int.toNat_natCast, okB_int, okB_non, okB_rT, okB_rTs, okB_rTt, ownL, wLt, wIn, inT_rTs, okE_int, okE_str, okE_rT, okE_rTs, okE_rTt, okE_nil, tyIs, wListF, wCatF, timesT]
      have hb90 : ∀ r ∈ ps, bd 90 r := fun r hr => (hb r hr).mono (by decide)
      have hb1000 : ∀ r ∈ ps, bd 1000 r := fun r hr => (hb r hr).mono (by decide)
      have hf := bd_spr (g := gi) (n := n) hb hg (by omega)
      have hrp : rpOk (.lst ((spr ps gi n).map rT)) := rpOk_rTs hf (by decide) (by decide) (by rw [spr_len]; omega)
      rw [if_neg (by decide)]
      refine ⟨hrp, ?_⟩
      rw [wCall_of g.lspread]
      refine ⟨rfl, ps, gi, n, rfl, hb90, by omega, hg, by omega, hrp, wNe_pass okE_str (shT_same rfl) (wNe_pass okE_int ?_ ?_)⟩
      · rw [eqT_int, List.length_map, spr_len]
        exact decide_eq_true rfl
      rw [wCall_of g.even]
      refine ⟨rfl, ps, gi, _, rfl, hb90, hf, by omega, by rw [spr_len]; omega, hg, _, rfl, ?_⟩
      rw [even_spr hg, if_neg (by decide)]
      refine wLc_each (F := fun f => gapT ps f) _ (by rw [spr_len]; exact sz1000 (by omega)) (fun f hfm KK K' N k => ?_) ?_
      · simp only [e_law_3, wCall_of g.gap, wSs, wS, w, mk, bOf, wEs, wP, wI, wIfs, wAnd, wOr, rd, L3.startT, frz, frz1, List.foldl, List.map, List.length, endsOf, List.cons_append, List.nil_append, List.replicate, List.set, Co.w, Bo.w, Bf.w, wCmp, wGcd, wFdv, wNeg, wMul, wAdd, wSub, wMod, wPar, Ms.fl, wMs, setM, Tg.w, wTup_cons, wTup_nil, wLcE, wF, List.getElem?_cons_zero, List.getElem?_cons_succ, List.set_cons_zero, List.set_cons_succ, Nat.reduceSub, Nat.reduceAdd, List.length_cons, List.length_nil, List.map_cons, List.map_nil, List.foldl_nil, List.replicate_succ, List.replicate_zero, Nat.reduceEqDiff, if_false, if_true, T.bl.injEq, T.int.injEq, T.tup.injEq, T.lst.injEq, exists_eq_left', true_or, and_true, true_and, reduceCtorEq, reduceIte, decide_eq_true_eq, seqT, Option.some.injEq, wipeT, wRev, wSl, false_or, or_true, bneF, bneT, Int.toNat_natCast, okB_int, okB_non, okB_rT, okB_rTs, okB_rTt, ownL, wLt, wIn, inT_rTs, okE_int, okE_str, okE_rT, okE_rTs, okE_rTt, okE_nil, tyIs, wListF, wCatF, timesT]
        exact ⟨ps, f, rfl, hb1000, (hf f hfm).mono (by decide), by omega, k⟩
      have er : (spr ps gi n).map (fun f => gapT ps f) = List.replicate n (T.int (gi : Int)) := by
        rw [List.map_congr_left (gap_spr hs hg), List.map_const', spr_len]
      rw [er, flat_one]
      have hgi2 : rpD 39 (T.int (gi : Int)) = true := decide_eq_true (Nat.lt_of_lt_of_le (PySem.Flt.log2_lt_of (k := 20) (by decide) (by rw [Int.natAbs_natCast]; omega)) (by decide))
      have hrr : rpOk (.lst (List.replicate n (T.int (gi : Int)))) := rpOk_rep hgi2 rfl (by omega)
      refine ⟨hrr, by decide, ⟨by omega, by omega, by rw [Nat.one_mul]; exact Nat.le_of_lt (sz1000 (by omega))⟩, hrr, wNe_pass okE_str (shT_same rfl) ?_⟩
      refine ⟨by rw [List.length_map, spr_len]; exact sz1000 (by omega), ?_⟩
      rw [wCall_of g.spread]
      refine ⟨rfl, ps, gi, n, rfl, hb90, by omega, hg, by omega, ?_⟩
      dsimp only
      rw [wCall_of g.lspread]
      exact ⟨rfl, ps, gi, n, rfl, hb90, by omega, hg, by omega, wNe_pass okE_rTs (eqT_same okB_rTs) (hK2 _ ⟨_, _, _, _, _, rfl⟩)⟩
    · rintro ρ ⟨x2, x4, x5, x6, x7, rfl⟩
      simp only [wSs, wS, w, mk, bOf, wEs, wP, wI, wIfs, wAnd, wOr, rd, L3.startT, frz, frz1, List.foldl, List.map, List.length, endsOf, List.cons_append, List.nil_append, List.replicate, List.set, Co.w, Bo.w, Bf.w, wCmp, wGcd, wFdv, wNeg, wMul, wAdd, wSub, wMod, wPar, Ms.fl, wMs, setM, Tg.w, wTup_cons, wTup_nil, wLcE, wF, List.getElem?_cons_zero, List.getElem?_cons_succ, List.set_cons_zero, List.set_cons_succ, Nat.reduceSub, Nat.reduceAdd, List.length_cons, List.length_nil, List.map_cons, List.map_nil, List.foldl_nil, List.replicate_succ, List.replicate_zero, Nat.reduceEqDiff, if_false, if_true, T.bl.injEq, T.int.injEq, T.tup.injEq, T.lst.injEq, exists_eq_left', true_or, and_true, true_and, reduceCtorEq, reduceIte, decide_eq_true_eq, seqT, Option.some.injEq, wipeT, wRev, wSl, false_or, or_true, bneF, bneT, Int.toNat_natCast, okB_int, okB_non, okB_rT, okB_rTs, okB_rTt, ownL, wLt, wIn, inT_rTs, okE_int, okE_str, okE_rT, okE_rTs, okE_rTt, okE_nil, tyIs, wListF, wCatF, timesT]
      have hb1000 : ∀ r ∈ ps, bd 1000 r := fun r hr => (hb r hr).mono (by decide)
      refine wLc_each (F := fun f => gapT ps f) _ (sz1000 (by omega)) (fun f hfm KK K' N k => ?_) ?_
      · simp only [e_law_2, wCall_of g.gap, wSs, wS, w, mk, bOf, wEs, wP, wI, wIfs, wAnd, wOr, rd, L3.startT, frz, frz1, List.foldl, List.map, List.length, endsOf, List.cons_append, List.nil_append, List.replicate, List.set, Co.w, Bo.w, Bf.w, wCmp, wGcd, wFdv, wNeg, wMul, wAdd, wSub, wMod, wPar, Ms.fl, wMs, setM, Tg.w, wTup_cons, wTup_nil, wLcE, wF, List.getElem?_cons_zero, List.getElem?_cons_succ, List.set_cons_zero, List.set_cons_succ, Nat.reduceSub, Nat.reduceAdd, List.length_cons, List.length_nil, List.map_cons, List.map_nil, List.foldl_nil, List.replicate_succ, List.replicate_zero, Nat.reduceEqDiff, if_false, if_true, T.bl.injEq, T.int.injEq, T.tup.injEq, T.lst.injEq, exists_eq_left', true_or, and_true, true_and, reduceCtorEq, reduceIte, decide_eq_true_eq, seqT, Option.some.injEq, wipeT, wRev, wSl, false_or, or_true, bneF, bneT, Int.toNat_natCast, okB_int, okB_non, okB_rT, okB_rTs, okB_rTt, ownL, wLt, wIn, inT_rTs, okE_int, okE_str, okE_rT, okE_rTs, okE_rTt, okE_nil, tyIs, wListF, wCatF, timesT]
        exact ⟨ps, f, rfl, hb1000, hb1000 f hfm, by omega, k⟩
      have er : ps.map (fun f => gapT ps f) = List.replicate m T.non := by
        have : ∀ f ∈ ps, gapT ps f = T.non := fun f hf => by unfold gapT; rw [if_pos hf]
        rw [List.map_congr_left this, List.map_const', hm]
      rw [er, flat_one, List.length_map, hm]
      have hnon : okB (.lst (List.replicate m T.non)) = true := okB_lst fun x hx => by rw [List.eq_of_mem_replicate hx]; rfl
      refine ⟨by decide, ⟨by omega, by omega, by rw [Nat.one_mul]; exact Nat.le_of_lt (sz1000 (by omega))⟩, wNe_pass (okE_of hnon hnon) (eqT_same hnon) ?_⟩
      refine ⟨b, 4, rfl, by decide, fun qs hqs => ?_⟩
      obtain ⟨hq1, _, hq3⟩ := hqs
      simp only [wSs, wS, w, mk, bOf, wEs, wP, wI, wIfs, wAnd, wOr, rd, L3.startT, frz, frz1, List.foldl, List.map, List.length, endsOf, List.cons_append, List.nil_append, List.replicate, List.set, Co.w, Bo.w, Bf.w, wCmp, wGcd, wFdv, wNeg, wMul, wAdd, wSub, wMod, wPar, Ms.fl, wMs, setM, Tg.w, wTup_cons, wTup_nil, wLcE, wF, List.getElem?_cons_zero, List.getElem?_cons_succ, List.set_cons_zero, List.set_cons_succ, Nat.reduceSub, Nat.reduceAdd, List.length_cons, List.length_nil, List.map_cons, List.map_nil, List.foldl_nil, List.replicate_succ, List.replicate_zero, Nat.reduceEqDiff, if_false, if_true, T.bl.injEq, T.int.injEq, T.tup.injEq, T.lst.injEq, exists_eq_left', true_or, and_true, true_and, reduceCtorEq, reduceIte, decide_eq_true_eq, seqT, Option.some.injEq, wipeT, wRev, wSl, false_or, or_true, bneF, bneT, Int.toNat_natCast, okB_int, okB_non, okB_rT, okB_rTs, okB_rTt, ownL, wLt, wIn, inT_rTs, okE_int, okE_str, okE_rT, okE_rTs, okE_rTt, okE_nil, tyIs, wListF, wCatF, timesT]
      refine ⟨by decide, by decide, by decide, by decide, by decide, by rw [List.length_map]; exact Nat.le_of_lt (sz1000 (by omega)), ?_⟩
      have el : qs.map rT ++ [T.tup [T.int 0, T.int 1], T.tup [T.int (-30), T.int 1], T.tup [T.int 30, T.int 1], T.tup [T.int 1, T.int 60]] = (qs ++ [0, -30, 30, mkRat 1 60]).map rT := by
        rw [List.map_append]
        congr 1
      rw [el]
      refine wFor_inv (fun i ρ => ∃ x2 x4 x5 x6 x7, ρ = [.sh (.src 0 a), .sh (.src 1 b), x2, .sh (.tup (ps.map rT)), x4, x5, x6, x7]) ⟨_, _, _, _, _, rfl⟩ ?_ ?_
      · rintro j d2 ρ K3 hd2 ⟨y2, y4, y5, y6, y7, rfl⟩ hK3
        rw [List.getElem?_map] at hd2
        obtain ⟨x, hx, rfl⟩ := Option.map_eq_some_iff.mp hd2
        have hxb : bd 1000 x := by
          rcases List.mem_append.mp (List.mem_of_getElem? hx) with h | h
          · exact (hq3 x h).mono (by decide)
          · simp only [List.mem_cons, List.not_mem_nil, or_false] at h
            have bb : ∀ i : Int, i.natAbs < 2 ^ 20 → bd 1000 (i : Rat) := fun i hi => (bd_int (k := 20) hi (by decide)).mono (by decide)
            rcases h with rfl | rfl | rfl | rfl
            · exact bb 0 (by decide)
            · exact bb (-30) (by decide)
            · exact bb 30 (by decide)
            · exact (bd_mk (k := 20) (by decide) (by decide) (by decide)).mono (by decide)
        simp only [b_law_1, wCall_of g.gap, wCall_of g.due, wSs, wS, w, mk, bOf, wEs, wP, wI, wIfs, wAnd, wOr, rd, L3.startT, frz, frz1, List.foldl, List.map, List.length, endsOf, List.cons_append, List.nil_append, List.replicate, List.set, Co.w, Bo.w, Bf.w, wCmp, wGcd, wFdv, wNeg, wMul, wAdd, wSub, wMod, wPar, Ms.fl, wMs, setM, Tg.w, wTup_cons, wTup_nil, wLcE, wF, List.getElem?_cons_zero, List.getElem?_cons_succ, List.set_cons_zero, List.set_cons_succ, Nat.reduceSub, Nat.reduceAdd, List.length_cons, List.length_nil, List.map_cons, List.map_nil, List.foldl_nil, List.replicate_succ, List.replicate_zero, Nat.reduceEqDiff, if_false, if_true, T.bl.injEq, T.int.injEq, T.tup.injEq, T.lst.injEq, exists_eq_left', true_or, and_true, true_and, reduceCtorEq, reduceIte, decide_eq_true_eq, seqT, Option.some.injEq, wipeT, wRev, wSl, false_or, or_true, bneF, bneT, Int.toNat_natCast, okB_int, okB_non, okB_rT, okB_rTs, okB_rTt, ownL, wLt, wIn, inT_rTs, okE_int, okE_str, okE_rT, okE_rTs, okE_rTt, okE_nil, tyIs, wListF, wCatF, timesT]
        refine ⟨ps, x, rfl, hb1000, hxb, by omega, rpOk_gap (by omega), ps, x, rfl, hb1000, hxb, by omega, hs, rpOk_gap (by omega), wNe_pass okE_str (shT_same rfl) (hK3 _ ⟨_, _, _, _, _, rfl⟩)⟩
      · rintro ρ ⟨y2, y4, y5, y6, y7, rfl⟩
        exact hK _ ⟨_, _, _, _, _, _, rfl⟩
  · rintro ρ ⟨x2, x3, x4, x5, x6, x7, rfl⟩
    simp only [wSs, wS, w, mk, bOf, wEs, wP, wI, wIfs, wAnd, wOr, rd, L3.startT, frz, frz1, List.foldl, List.map, List.length, endsOf, List.cons_append, List.nil_append, List.replicate, List.set, Co.w, Bo.w, Bf.w, wCmp, wGcd, wFdv, wNeg, wMul, wAdd, wSub, wMod, wPar, Ms.fl, wMs, setM, Tg.w, wTup_cons, wTup_nil, wLcE, wF, List.getElem?_cons_zero, List.getElem?_cons_succ, List.set_cons_zero, List.set_cons_succ, Nat.reduceSub, Nat.reduceAdd, List.length_cons, List.length_nil, List.map_cons, List.map_nil, List.foldl_nil, List.replicate_succ, List.replicate_zero, Nat.reduceEqDiff, if_false, if_true, T.bl.injEq, T.int.injEq, T.tup.injEq, T.lst.injEq, exists_eq_left', true_or, and_true, true_and, reduceCtorEq, reduceIte, decide_eq_true_eq, seqT, Option.some.injEq, wipeT, wRev, wSl, false_or, or_true, bneF, bneT, Int.toNat_natCast, okB_int, okB_non, okB_rT, okB_rTs, okB_rTt, ownL, wLt, wIn, inT_rTs, okE_int, okE_str, okE_rT, okE_rTs, okE_rTt, okE_nil, tyIs, wListF, wCatF, timesT]
    exact q
end LawP

namespace LawP
open PySem PySem.Spec PyProof.Rows L2 L3
def G : Gt := fun x => List.lookup x [("_law_open_cells", ⟨1, 0, spOpen⟩), ("_law_pick", ⟨2, 0, spPick⟩), ("_law_point", ⟨2, 0, sp_point⟩), ("_law_draw_points", ⟨2, 0, sp_draw⟩), ("stepped", ⟨2, 0, sp_stepped⟩), ("make_point", ⟨2, 0, sp_point⟩), ("between", ⟨4, 0, sp_between⟩), ("spread", ⟨3, 1, sp_spread⟩), ("_law_spread", ⟨3, 0, sp_spread⟩), ("_law_apart", ⟨2, 0, sp_apart⟩), ("_law_is_even", ⟨3, 0, sp_even⟩), ("is_before", ⟨2, 0, sp_less⟩), ("gap_of", ⟨2, 0, sp_gap_of⟩), ("_law_less", ⟨2, 0, sp_less⟩), ("_law_gap_due", ⟨2, 0, sp_gap_due⟩)]
theorem G_l_open_cells : G "_law_open_cells" = some ⟨1, 0, spOpen⟩ := rfl
theorem G_l_pick : G "_law_pick" = some ⟨2, 0, spPick⟩ := rfl
theorem G_l_point : G "_law_point" = some ⟨2, 0, sp_point⟩ := rfl
theorem G_l_draw_points : G "_law_draw_points" = some ⟨2, 0, sp_draw⟩ := rfl
theorem G_stepped : G "stepped" = some ⟨2, 0, sp_stepped⟩ := rfl
theorem G_make_point : G "make_point" = some ⟨2, 0, sp_point⟩ := rfl
theorem G_between : G "between" = some ⟨4, 0, sp_between⟩ := rfl
theorem G_spread : G "spread" = some ⟨3, 1, sp_spread⟩ := rfl
theorem G_l_spread : G "_law_spread" = some ⟨3, 0, sp_spread⟩ := rfl
theorem G_l_apart : G "_law_apart" = some ⟨2, 0, sp_apart⟩ := rfl
theorem G_l_is_even : G "_law_is_even" = some ⟨3, 0, sp_even⟩ := rfl
theorem G_is_before : G "is_before" = some ⟨2, 0, sp_less⟩ := rfl
theorem G_gap_of : G "gap_of" = some ⟨2, 0, sp_gap_of⟩ := rfl
theorem G_l_less : G "_law_less" = some ⟨2, 0, sp_less⟩ := rfl
theorem G_l_gap_due : G "_law_gap_due" = some ⟨2, 0, sp_gap_due⟩ := rfl
theorem all_mk {l : PySem.W.OpenLaw} {w : World} {K : PySem.W.Frag} {h : Heap} {mg : Str → Option Value} {fa f1 f2 f3 f4 f5 f6 f7 f8 f9 f10 f11 f12 f13 f14 f15 f16 : Addr} (X : K.In h) (Gn : h.Ns mainGlobals mg) (hfa : mg "law" = some (.ref fa))
    {od1 an1 od2 an2 od3 an3 od4 an4 od5 an5 od6 an6 od7 an7 od8 an8 od9 an9 od10 an10 od11 an11 od12 an12 od13 an13 od14 an14 od15 an15 od16 an16 : Option Addr} {sl1 sl2 sl3 sl4 sl5 sl6 sl7 sl8 sl9 sl10 sl11 sl12 sl13 sl14 sl15 sl16 : Array (Option Value)} {oc1 kV1 dc1 pm1 cd1 ct1 oc2 kV2 dc2 pm2 cd2 ct2 oc3 kV3 dc3 pm3 cd3 ct3 oc4 kV4 dc4 pm4 cd4 ct4 oc5 kV5 dc5 pm5 cd5 ct5 oc6 kV6 dc6 pm6 cd6 ct6 oc7 kV7 dc7 pm7 cd7 ct7 oc8 kV8 dc8 pm8 cd8 ct8 oc9 kV9 dc9 pm9 cd9 ct9 oc10 kV10 dc10 pm10 cd10 ct10 oc11 kV11 dc11 pm11 cd11 ct11 oc12 kV12 dc12 pm12 cd12 ct12 oc13 kV13 dc13 pm13 cd13 ct13 oc14 kV14 dc14 pm14 cd14 ct14 oc15 kV15 dc15 pm15 cd15 ct15 oc16 kV16 dc16 pm16 cd16 ct16 : Value}
    (a1 : PySem.W.nsIn K mainGlobals "_law_open_cells" = some (some (.ref f1))) (l1 : K.lookup f1 = some ⟨oc1, od1, .func (PySem.W.fnOf "_law_open_cells" "_law_open_cells" (defArgs s_open) (defBody s_open) (defScope s_open) .none kV1 dc1 pm1 an1 cd1 ct1), sl1⟩) (c1 : PySem.W.codeIn K cd1 "_law_open_cells" = true) (k1 : PySem.W.keepIn K (.ref f1) = true)
    (a2 : PySem.W.nsIn K mainGlobals "_law_pick" = some (some (.ref f2))) (l2 : K.lookup f2 = some ⟨oc2, od2, .func (PySem.W.fnOf "_law_pick" "_law_pick" (defArgs s_pick) (defBody s_pick) (defScope s_pick) .none kV2 dc2 pm2 an2 cd2 ct2), sl2⟩) (c2 : PySem.W.codeIn K cd2 "_law_pick" = true) (k2 : PySem.W.keepIn K (.ref f2) = true)
    (a3 : PySem.W.nsIn K mainGlobals "_law_point" = some (some (.ref f3))) (l3 : K.lookup f3 = some ⟨oc3, od3, .func (PySem.W.fnOf "_law_point" "_law_point" (defArgs s_l_point) (defBody s_l_point) (defScope s_l_point) .none kV3 dc3 pm3 an3 cd3 ct3), sl3⟩) (c3 : PySem.W.codeIn K cd3 "_law_point" = true) (k3 : PySem.W.keepIn K (.ref f3) = true)
    (a4 : PySem.W.nsIn K mainGlobals "_law_draw_points" = some (some (.ref f4))) (l4 : K.lookup f4 = some ⟨oc4, od4, .func (PySem.W.fnOf "_law_draw_points" "_law_draw_points" (defArgs s_l_draw_points) (defBody s_l_draw_points) (defScope s_l_draw_points) .none kV4 dc4 pm4 an4 cd4 ct4), sl4⟩) (c4 : PySem.W.codeIn K cd4 "_law_draw_points" = true) (k4 : PySem.W.keepIn K (.ref f4) = true)
    (a5 : PySem.W.nsIn K mainGlobals "stepped" = some (some (.ref f5))) (l5 : K.lookup f5 = some ⟨oc5, od5, .func (PySem.W.fnOf "stepped" "stepped" (defArgs s_stepped) (defBody s_stepped) (defScope s_stepped) .none kV5 dc5 pm5 an5 cd5 ct5), sl5⟩) (c5 : PySem.W.codeIn K cd5 "stepped" = true) (k5 : PySem.W.keepIn K (.ref f5) = true)
    (a6 : PySem.W.nsIn K mainGlobals "make_point" = some (some (.ref f6))) (l6 : K.lookup f6 = some ⟨oc6, od6, .func (PySem.W.fnOf "make_point" "make_point" (defArgs s_make_point) (defBody s_make_point) (defScope s_make_point) .none kV6 dc6 pm6 an6 cd6 ct6), sl6⟩) (c6 : PySem.W.codeIn K cd6 "make_point" = true) (k6 : PySem.W.keepIn K (.ref f6) = true)
    (a7 : PySem.W.nsIn K mainGlobals "between" = some (some (.ref f7))) (l7 : K.lookup f7 = some ⟨oc7, od7, .func (PySem.W.fnOf "between" "between" (defArgs s_between) (defBody s_between) (defScope s_between) .none kV7 dc7 pm7 an7 cd7 ct7), sl7⟩) (c7 : PySem.W.codeIn K cd7 "between" = true) (k7 : PySem.W.keepIn K (.ref f7) = true)
    (a8 : PySem.W.nsIn K mainGlobals "spread" = some (some (.ref f8))) (l8 : K.lookup f8 = some ⟨oc8, od8, .func (PySem.W.fnOf "spread" "spread" (defArgs s_spread) (defBody s_spread) (defScope s_spread) .none kV8 dc8 pm8 an8 cd8 ct8), sl8⟩) (c8 : PySem.W.codeIn K cd8 "spread" = true) (k8 : PySem.W.keepIn K (.ref f8) = true)
    (a9 : PySem.W.nsIn K mainGlobals "_law_spread" = some (some (.ref f9))) (l9 : K.lookup f9 = some ⟨oc9, od9, .func (PySem.W.fnOf "_law_spread" "_law_spread" (defArgs s_l_spread) (defBody s_l_spread) (defScope s_l_spread) .none kV9 dc9 pm9 an9 cd9 ct9), sl9⟩) (c9 : PySem.W.codeIn K cd9 "_law_spread" = true) (k9 : PySem.W.keepIn K (.ref f9) = true)
    (a10 : PySem.W.nsIn K mainGlobals "_law_apart" = some (some (.ref f10))) (l10 : K.lookup f10 = some ⟨oc10, od10, .func (PySem.W.fnOf "_law_apart" "_law_apart" (defArgs s_l_apart) (defBody s_l_apart) (defScope s_l_apart) .none kV10 dc10 pm10 an10 cd10 ct10), sl10⟩) (c10 : PySem.W.codeIn K cd10 "_law_apart" = true) (k10 : PySem.W.keepIn K (.ref f10) = true)
    (a11 : PySem.W.nsIn K mainGlobals "_law_is_even" = some (some (.ref f11))) (l11 : K.lookup f11 = some ⟨oc11, od11, .func (PySem.W.fnOf "_law_is_even" "_law_is_even" (defArgs s_l_is_even) (defBody s_l_is_even) (defScope s_l_is_even) .none kV11 dc11 pm11 an11 cd11 ct11), sl11⟩) (c11 : PySem.W.codeIn K cd11 "_law_is_even" = true) (k11 : PySem.W.keepIn K (.ref f11) = true)
    (a12 : PySem.W.nsIn K mainGlobals "is_before" = some (some (.ref f12))) (l12 : K.lookup f12 = some ⟨oc12, od12, .func (PySem.W.fnOf "is_before" "is_before" (defArgs s_is_before) (defBody s_is_before) (defScope s_is_before) .none kV12 dc12 pm12 an12 cd12 ct12), sl12⟩) (c12 : PySem.W.codeIn K cd12 "is_before" = true) (k12 : PySem.W.keepIn K (.ref f12) = true)
    (a13 : PySem.W.nsIn K mainGlobals "gap_of" = some (some (.ref f13))) (l13 : K.lookup f13 = some ⟨oc13, od13, .func (PySem.W.fnOf "gap_of" "gap_of" (defArgs s_gap_of) (defBody s_gap_of) (defScope s_gap_of) .none kV13 dc13 pm13 an13 cd13 ct13), sl13⟩) (c13 : PySem.W.codeIn K cd13 "gap_of" = true) (k13 : PySem.W.keepIn K (.ref f13) = true)
    (a14 : PySem.W.nsIn K mainGlobals "_law_less" = some (some (.ref f14))) (l14 : K.lookup f14 = some ⟨oc14, od14, .func (PySem.W.fnOf "_law_less" "_law_less" (defArgs s_l_less) (defBody s_l_less) (defScope s_l_less) .none kV14 dc14 pm14 an14 cd14 ct14), sl14⟩) (c14 : PySem.W.codeIn K cd14 "_law_less" = true) (k14 : PySem.W.keepIn K (.ref f14) = true)
    (a15 : PySem.W.nsIn K mainGlobals "_law_gap_due" = some (some (.ref f15))) (l15 : K.lookup f15 = some ⟨oc15, od15, .func (PySem.W.fnOf "_law_gap_due" "_law_gap_due" (defArgs s_l_gap_due) (defBody s_l_gap_due) (defScope s_l_gap_due) .none kV15 dc15 pm15 an15 cd15 ct15), sl15⟩) (c15 : PySem.W.codeIn K cd15 "_law_gap_due" = true) (k15 : PySem.W.keepIn K (.ref f15) = true)
    (a16 : PySem.W.nsIn K mainGlobals "law" = some (some (.ref f16))) (l16 : K.lookup f16 = some ⟨oc16, od16, .func (PySem.W.fnOf "law" "law" (defArgs s_law) (defBody s_law) (defScope s_law) .none kV16 dc16 pm16 an16 cd16 ct16), sl16⟩) (c16 : PySem.W.codeIn K cd16 "law" = true) (k16 : PySem.W.keepIn K (.ref f16) = true)
    (z1 : PySem.W.nsIn K mainGlobals "int" = some none)
    (z2 : PySem.W.nsIn K mainGlobals "abs" = some none)
    (z3 : PySem.W.nsIn K mainGlobals "range" = some none)
    (z4 : PySem.W.nsIn K mainGlobals "len" = some none)
    (z5 : PySem.W.nsIn K mainGlobals "all" = some none)
    (z6 : PySem.W.nsIn K mainGlobals "list" = some none)
    (z7 : PySem.W.nsIn K mainGlobals "enumerate" = some none)
    (z8 : PySem.W.nsIn K mainGlobals "repr" = some none)
    (z9 : PySem.W.nsIn K mainGlobals "isinstance" = some none)
    (z10 : PySem.W.nsIn K mainGlobals "tuple" = some none)
    (zg : PySem.W.nsIn K mainGlobals "gcd" = some (some (.builtin "math.gcd")))
    : ∃ fd : FuncData, (∀ (s : Shared) (v : Value), BindsTo s fd ⟨[v], []⟩ [("_law_script", v)]) ∧ ∀ base : Heap, K.In base → base.Ns mainGlobals mg → FnG l.prog w K mg base 4 fa fd ["_law_script"] (spV (ctx l.prog w K mg) 1 0 spLaw) := by
  have e := hfa.symm.trans (PySem.W.mg_of X Gn a16)
  cases e
  have hs : SrcStays (ctx l.prog w K mg) := ctx_stays
  have F1 : Fun (ctx l.prog w K mg).K "_law_open_cells" "_law_open_cells" s_open f1 _ := fun_mk (st := s_open) l1 c1 k1
  have m1 : (ctx l.prog w K mg).mg "_law_open_cells" = some (.ref f1) := PySem.W.mg_of X Gn a1
  have b1 := F1.binds (ps := ["_law_script"]) fun _ _ _ _ _ _ us hl => match us, hl with | [_], _ => rfl
  have F2 : Fun (ctx l.prog w K mg).K "_law_pick" "_law_pick" s_pick f2 _ := fun_mk (st := s_pick) l2 c2 k2
  have m2 : (ctx l.prog w K mg).mg "_law_pick" = some (.ref f2) := PySem.W.mg_of X Gn a2
  have b2 := F2.binds (ps := ["_law_source", "_law_most"]) fun _ _ _ _ _ _ us hl => match us, hl with | [_, _], _ => rfl
  have F3 : Fun (ctx l.prog w K mg).K "_law_point" "_law_point" s_l_point f3 _ := fun_mk (st := s_l_point) l3 c3 k3
  have m3 : (ctx l.prog w K mg).mg "_law_point" = some (.ref f3) := PySem.W.mg_of X Gn a3
  have b3 := F3.binds (ps := ["_law_p", "_law_q"]) fun _ _ _ _ _ _ us hl => match us, hl with | [_, _], _ => rfl
  have F4 : Fun (ctx l.prog w K mg).K "_law_draw_points" "_law_draw_points" s_l_draw_points f4 _ := fun_mk (st := s_l_draw_points) l4 c4 k4
  have m4 : (ctx l.prog w K mg).mg "_law_draw_points" = some (.ref f4) := PySem.W.mg_of X Gn a4
  have b4 := F4.binds (ps := ["_law_source", "_law_many"]) fun _ _ _ _ _ _ us hl => match us, hl with | [_, _], _ => rfl
  have F5 : Fun (ctx l.prog w K mg).K "stepped" "stepped" s_stepped f5 _ := fun_mk (st := s_stepped) l5 c5 k5
  have m5 : (ctx l.prog w K mg).mg "stepped" = some (.ref f5) := PySem.W.mg_of X Gn a5
  have b5 := F5.binds (ps := ["point", "steps"]) fun _ _ _ _ _ _ us hl => match us, hl with | [_, _], _ => rfl
  have F6 : Fun (ctx l.prog w K mg).K "make_point" "make_point" s_make_point f6 _ := fun_mk (st := s_make_point) l6 c6 k6
  have m6 : (ctx l.prog w K mg).mg "make_point" = some (.ref f6) := PySem.W.mg_of X Gn a6
  have b6 := F6.binds (ps := ["p", "q"]) fun _ _ _ _ _ _ us hl => match us, hl with | [_, _], _ => rfl
  have F7 : Fun (ctx l.prog w K mg).K "between" "between" s_between f7 _ := fun_mk (st := s_between) l7 c7 k7
  have m7 : (ctx l.prog w K mg).mg "between" = some (.ref f7) := PySem.W.mg_of X Gn a7
  have b7 := F7.binds (ps := ["low", "high", "i", "parts"]) fun _ _ _ _ _ _ us hl => match us, hl with | [_, _, _, _], _ => rfl
  have F8 : Fun (ctx l.prog w K mg).K "spread" "spread" s_spread f8 _ := fun_mk (st := s_spread) l8 c8 k8
  have m8 : (ctx l.prog w K mg).mg "spread" = some (.ref f8) := PySem.W.mg_of X Gn a8
  have b8 := F8.binds (ps := ["points", "gap", "n"]) fun _ _ _ _ _ _ us hl => match us, hl with | [_, _, _], _ => rfl
  have F9 : Fun (ctx l.prog w K mg).K "_law_spread" "_law_spread" s_l_spread f9 _ := fun_mk (st := s_l_spread) l9 c9 k9
  have m9 : (ctx l.prog w K mg).mg "_law_spread" = some (.ref f9) := PySem.W.mg_of X Gn a9
  have b9 := F9.binds (ps := ["_law_points", "_law_gap", "_law_n"]) fun _ _ _ _ _ _ us hl => match us, hl with | [_, _, _], _ => rfl
  have F10 : Fun (ctx l.prog w K mg).K "_law_apart" "_law_apart" s_l_apart f10 _ := fun_mk (st := s_l_apart) l10 c10 k10
  have m10 : (ctx l.prog w K mg).mg "_law_apart" = some (.ref f10) := PySem.W.mg_of X Gn a10
  have b10 := F10.binds (ps := ["_law_one", "_law_other"]) fun _ _ _ _ _ _ us hl => match us, hl with | [_, _], _ => rfl
  have F11 : Fun (ctx l.prog w K mg).K "_law_is_even" "_law_is_even" s_l_is_even f11 _ := fun_mk (st := s_l_is_even) l11 c11 k11
  have m11 : (ctx l.prog w K mg).mg "_law_is_even" = some (.ref f11) := PySem.W.mg_of X Gn a11
  have b11 := F11.binds (ps := ["_law_points", "_law_gap", "_law_found"]) fun _ _ _ _ _ _ us hl => match us, hl with | [_, _, _], _ => rfl
  have F12 : Fun (ctx l.prog w K mg).K "is_before" "is_before" s_is_before f12 _ := fun_mk (st := s_is_before) l12 c12 k12
  have m12 : (ctx l.prog w K mg).mg "is_before" = some (.ref f12) := PySem.W.mg_of X Gn a12
  have b12 := F12.binds (ps := ["one", "other"]) fun _ _ _ _ _ _ us hl => match us, hl with | [_, _], _ => rfl
  have F13 : Fun (ctx l.prog w K mg).K "gap_of" "gap_of" s_gap_of f13 _ := fun_mk (st := s_gap_of) l13 c13 k13
  have m13 : (ctx l.prog w K mg).mg "gap_of" = some (.ref f13) := PySem.W.mg_of X Gn a13
  have b13 := F13.binds (ps := ["points", "point"]) fun _ _ _ _ _ _ us hl => match us, hl with | [_, _], _ => rfl
  have F14 : Fun (ctx l.prog w K mg).K "_law_less" "_law_less" s_l_less f14 _ := fun_mk (st := s_l_less) l14 c14 k14
  have m14 : (ctx l.prog w K mg).mg "_law_less" = some (.ref f14) := PySem.W.mg_of X Gn a14
  have b14 := F14.binds (ps := ["_law_one", "_law_other"]) fun _ _ _ _ _ _ us hl => match us, hl with | [_, _], _ => rfl
  have F15 : Fun (ctx l.prog w K mg).K "_law_gap_due" "_law_gap_due" s_l_gap_due f15 _ := fun_mk (st := s_l_gap_due) l15 c15 k15
  have m15 : (ctx l.prog w K mg).mg "_law_gap_due" = some (.ref f15) := PySem.W.mg_of X Gn a15
  have b15 := F15.binds (ps := ["_law_points", "_law_point_here"]) fun _ _ _ _ _ _ us hl => match us, hl with | [_, _], _ => rfl
  have F16 : Fun (ctx l.prog w K mg).K "law" "law" s_law fa _ := fun_mk (st := s_law) l16 c16 k16
  have m16 : (ctx l.prog w K mg).mg "law" = some (.ref fa) := PySem.W.mg_of X Gn a16
  have b16 := F16.binds (ps := ["_law_script"]) fun _ _ _ _ _ _ us hl => match us, hl with | [_], _ => rfl
  have z1m : (ctx l.prog w K mg).mg "int" = none := PySem.W.mg_none_of X Gn z1
  have z2m : (ctx l.prog w K mg).mg "abs" = none := PySem.W.mg_none_of X Gn z2
  have z3m : (ctx l.prog w K mg).mg "range" = none := PySem.W.mg_none_of X Gn z3
  have z4m : (ctx l.prog w K mg).mg "len" = none := PySem.W.mg_none_of X Gn z4
  have z5m : (ctx l.prog w K mg).mg "all" = none := PySem.W.mg_none_of X Gn z5
  have z6m : (ctx l.prog w K mg).mg "list" = none := PySem.W.mg_none_of X Gn z6
  have z7m : (ctx l.prog w K mg).mg "enumerate" = none := PySem.W.mg_none_of X Gn z7
  have z8m : (ctx l.prog w K mg).mg "repr" = none := PySem.W.mg_none_of X Gn z8
  have z9m : (ctx l.prog w K mg).mg "isinstance" = none := PySem.W.mg_none_of X Gn z9
  have z10m : (ctx l.prog w K mg).mg "tuple" = none := PySem.W.mg_none_of X Gn z10
  have zgm : (ctx l.prog w K mg).mg "gcd" = some (.builtin "math.gcd") := PySem.W.mg_of X Gn zg
  refine ⟨PySem.W.fnOf "law" "law" (defArgs s_law) (defBody s_law) (defScope s_law) .none kV16 dc16 pm16 an16 cd16 ct16, fun s v => .of_eq rfl, fun base _ _ => ?_⟩
  have H1 : Has l.prog w base (ctx l.prog w K mg) G 1 "_law_open_cells" := .of_fn G_l_open_cells m1 k1 b1 (open_has (ok_open0 F1 z2m z1m) rfl) (by decide +kernel)
  have H2 : Has l.prog w base (ctx l.prog w K mg) G 1 "_law_pick" := .of_fn G_l_pick m2 k2 b2 (pick_has (ok_pick0 F2 z4m z1m) rfl) (by decide +kernel)
  have H3 : Has l.prog w base (ctx l.prog w K mg) G 1 "_law_point" := has_def (k := 0) hs t_l_point G_l_point (by rfl) F3 b3 m3 (by decide +kernel) (List.forall_mem_cons.mpr ⟨z1m, List.forall_mem_cons.mpr ⟨z2m, fun _ h => (nomatch h)⟩⟩) (fun _ h => (nomatch h)) (fun _ h => (nomatch h)) (fun h => absurd h (by decide)) (fun ds Q E _ h => ws_l_point ds Q E h)
  have H4 : Has l.prog w base (ctx l.prog w K mg) G 2 "_law_draw_points" := has_def (k := 1) hs t_l_draw_points G_l_draw_points (by rfl) F4 b4 m4 (by decide +kernel) (List.forall_mem_cons.mpr ⟨z3m, fun _ h => (nomatch h)⟩) (List.forall_mem_cons.mpr ⟨H2.mono (by decide), List.forall_mem_cons.mpr ⟨H3.mono (by decide), fun _ h => (nomatch h)⟩⟩) (fun _ h => (nomatch h)) (fun h => absurd h (by decide)) (fun ds Q E _ h => ws_draw G_l_point G_l_pick ds Q E h)
  have H5 : Has l.prog w base (ctx l.prog w K mg) G 1 "stepped" := has_def (k := 0) hs t_stepped G_stepped (by rfl) F5 b5 m5 (by decide +kernel) (fun _ h => (nomatch h)) (fun _ h => (nomatch h)) (fun _ h => (nomatch h)) (fun h => absurd h (by decide)) (fun ds Q E _ h => ws_stepped ds Q E h)
  have H6 : Has l.prog w base (ctx l.prog w K mg) G 1 "make_point" := has_def (k := 0) hs t_make_point G_make_point (by rfl) F6 b6 m6 (by decide +kernel) (fun _ h => (nomatch h)) (fun _ h => (nomatch h)) (fun _ h => (nomatch h)) (fun _ => zgm) (fun ds Q E _ h => ws_make_point ds Q E h)
  have H7 : Has l.prog w base (ctx l.prog w K mg) G 2 "between" := has_def (k := 1) hs t_between G_between (by rfl) F7 b7 m7 (by decide +kernel) (fun _ h => (nomatch h)) (List.forall_mem_cons.mpr ⟨H6.mono (by decide), fun _ h => (nomatch h)⟩) (fun _ h => (nomatch h)) (fun h => absurd h (by decide)) (fun ds Q E _ h => ws_between G_make_point ds Q E h)
  have H8 : Has l.prog w base (ctx l.prog w K mg) G 3 "spread" := has_def (k := 2) hs t_spread G_spread (by rfl) F8 b8 m8 (by decide +kernel) (List.forall_mem_cons.mpr ⟨z3m, List.forall_mem_cons.mpr ⟨z4m, fun _ h => (nomatch h)⟩⟩) (List.forall_mem_cons.mpr ⟨H7.mono (by decide), List.forall_mem_cons.mpr ⟨H5.mono (by decide), fun _ h => (nomatch h)⟩⟩) (fun _ h => (nomatch h)) (fun h => absurd h (by decide)) (fun ds Q E _ h => ws_spread G_stepped G_between ds Q E h)
  have H9 : Has l.prog w base (ctx l.prog w K mg) G 2 "_law_spread" := has_def (k := 1) hs t_l_spread G_l_spread (by rfl) F9 b9 m9 (by decide +kernel) (List.forall_mem_cons.mpr ⟨z3m, List.forall_mem_cons.mpr ⟨z4m, fun _ h => (nomatch h)⟩⟩) (List.forall_mem_cons.mpr ⟨H3.mono (by decide), fun _ h => (nomatch h)⟩) (fun _ h => (nomatch h)) (fun h => absurd h (by decide)) (fun ds Q E _ h => ws_l_spread G_l_point ds Q E h)
  have H10 : Has l.prog w base (ctx l.prog w K mg) G 2 "_law_apart" := has_def (k := 1) hs t_l_apart G_l_apart (by rfl) F10 b10 m10 (by decide +kernel) (fun _ h => (nomatch h)) (List.forall_mem_cons.mpr ⟨H3.mono (by decide), fun _ h => (nomatch h)⟩) (fun _ h => (nomatch h)) (fun h => absurd h (by decide)) (fun ds Q E _ h => ws_l_apart G_l_point ds Q E h)
  have H11 : Has l.prog w base (ctx l.prog w K mg) G 3 "_law_is_even" := has_def (k := 2) hs t_l_is_even G_l_is_even (by rfl) F11 b11 m11 (by decide +kernel) (List.forall_mem_cons.mpr ⟨z5m, List.forall_mem_cons.mpr ⟨z4m, List.forall_mem_cons.mpr ⟨z3m, List.forall_mem_cons.mpr ⟨z6m, fun _ h => (nomatch h)⟩⟩⟩⟩) (List.forall_mem_cons.mpr ⟨H10.mono (by decide), fun _ h => (nomatch h)⟩) (fun _ h => (nomatch h)) (fun h => absurd h (by decide)) (fun ds Q E _ h => ws_even G_l_apart ds Q E h)
  have H12 : Has l.prog w base (ctx l.prog w K mg) G 1 "is_before" := has_def (k := 0) hs t_is_before G_is_before (by rfl) F12 b12 m12 (by decide +kernel) (fun _ h => (nomatch h)) (fun _ h => (nomatch h)) (fun _ h => (nomatch h)) (fun h => absurd h (by decide)) (fun ds Q E _ h => ws_is_before ds Q E h)
  have H13 : Has l.prog w base (ctx l.prog w K mg) G 2 "gap_of" := has_def (k := 1) hs t_gap_of G_gap_of (by rfl) F13 b13 m13 (by decide +kernel) (List.forall_mem_cons.mpr ⟨z4m, fun _ h => (nomatch h)⟩) (List.forall_mem_cons.mpr ⟨H12.mono (by decide), fun _ h => (nomatch h)⟩) (fun _ h => (nomatch h)) (fun h => absurd h (by decide)) (fun ds Q E _ h => ws_gap_of G_is_before ds Q E h)
  have H14 : Has l.prog w base (ctx l.prog w K mg) G 1 "_law_less" := has_def (k := 0) hs t_l_less G_l_less (by rfl) F14 b14 m14 (by decide +kernel) (fun _ h => (nomatch h)) (fun _ h => (nomatch h)) (fun _ h => (nomatch h)) (fun h => absurd h (by decide)) (fun ds Q E _ h => ws_l_less ds Q E h)
  have H15 : Has l.prog w base (ctx l.prog w K mg) G 2 "_law_gap_due" := has_def (k := 1) hs t_l_gap_due G_l_gap_due (by rfl) F15 b15 m15 (by decide +kernel) (List.forall_mem_cons.mpr ⟨z4m, List.forall_mem_cons.mpr ⟨z7m, fun _ h => (nomatch h)⟩⟩) (List.forall_mem_cons.mpr ⟨H14.mono (by decide), fun _ h => (nomatch h)⟩) (fun _ h => (nomatch h)) (fun h => absurd h (by decide)) (fun ds Q E _ h => ws_gap_due G_l_less ds Q E h)
  exact fnG_def (k := 3) (x := "law") (i := ⟨1, 0, spLaw⟩) hs t_law (by rfl) F16 (List.forall_mem_cons.mpr ⟨z3m, List.forall_mem_cons.mpr ⟨z8m, List.forall_mem_cons.mpr ⟨z4m, List.forall_mem_cons.mpr ⟨z9m, List.forall_mem_cons.mpr ⟨z6m, List.forall_mem_cons.mpr ⟨z10m, fun _ h => (nomatch h)⟩⟩⟩⟩⟩⟩) (List.forall_mem_cons.mpr ⟨H4.mono (by decide), List.forall_mem_cons.mpr ⟨H13.mono (by decide), List.forall_mem_cons.mpr ⟨H15.mono (by decide), List.forall_mem_cons.mpr ⟨H8.mono (by decide), List.forall_mem_cons.mpr ⟨H9.mono (by decide), List.forall_mem_cons.mpr ⟨H11.mono (by decide), List.forall_mem_cons.mpr ⟨H2.mono (by decide), List.forall_mem_cons.mpr ⟨H1.mono (by decide), fun _ h => (nomatch h)⟩⟩⟩⟩⟩⟩⟩⟩) (List.forall_mem_cons.mpr ⟨⟨_, G_spread, rfl⟩, fun _ h => (nomatch h)⟩) (fun h => absurd h (by decide)) (fun ds Q E _ h => ws_law ⟨G_l_open_cells, G_l_pick, G_l_draw_points, G_spread, G_l_spread, G_l_is_even, G_gap_of, G_l_gap_due⟩ ds Q E h)
end LawP
open PySem PySem.W PyProof.Rows
set_option maxHeartbeats 0 in
theorem PySem.Challenge.cw_gapwise_k02_gaps_and_spread_holds : PySem.Challenge.rw_gapwise_k02_gaps_and_spread.Holds := by
  w_on; o_law; k_head; (case hw => w_witness2)
  k_fill
  refine L3.walk_L3 (l := PySem.Challenge.rw_gapwise_k02_gaps_and_spread) (k := 4) (x := "_law_script") rfl rfl ⟨rfl, by decide, by decide⟩ (fun w h Y => PySem.W.kIn_of Y) ?F
  case F =>
    intro w mg fa h KX G hmg
    refine' LawP.all_mk KX G hmg ?a1 ?l1 ?c1 ?k1 ?a2 ?l2 ?c2 ?k2 ?a3 ?l3 ?c3 ?k3 ?a4 ?l4 ?c4 ?k4 ?a5 ?l5 ?c5 ?k5 ?a6 ?l6 ?c6 ?k6 ?a7 ?l7 ?c7 ?k7 ?a8 ?l8 ?c8 ?k8 ?a9 ?l9 ?c9 ?k9 ?a10 ?l10 ?c10 ?k10 ?a11 ?l11 ?c11 ?k11 ?a12 ?l12 ?c12 ?k12 ?a13 ?l13 ?c13 ?k13 ?a14 ?l14 ?c14 ?k14 ?a15 ?l15 ?c15 ?k15 ?a16 ?l16 ?c16 ?k16 ?z1 ?z2 ?z3 ?z4 ?z5 ?z6 ?z7 ?z8 ?z9 ?z10 ?zg
    (case a1 => k_is); (case l1 => k_is); (case c1 => k_is); (case k1 => k_is); (case a2 => k_is); (case l2 => k_is); (case c2 => k_is); (case k2 => k_is); (case a3 => k_is); (case l3 => k_is); (case c3 => k_is); (case k3 => k_is); (case a4 => k_is); (case l4 => k_is); (case c4 => k_is); (case k4 => k_is); (case a5 => k_is); (case l5 => k_is); (case c5 => k_is); (case k5 => k_is); (case a6 => k_is); (case l6 => k_is); (case c6 => k_is); (case k6 => k_is); (case a7 => k_is); (case l7 => k_is); (case c7 => k_is); (case k7 => k_is); (case a8 => k_is); (case l8 => k_is); (case c8 => k_is); (case k8 => k_is); (case a9 => k_is); (case l9 => k_is); (case c9 => k_is); (case k9 => k_is); (case a10 => k_is); (case l10 => k_is); (case c10 => k_is); (case k10 => k_is); (case a11 => k_is); (case l11 => k_is); (case c11 => k_is); (case k11 => k_is); (case a12 => k_is); (case l12 => k_is); (case c12 => k_is); (case k12 => k_is); (case a13 => k_is); (case l13 => k_is); (case c13 => k_is); (case k13 => k_is); (case a14 => k_is); (case l14 => k_is); (case c14 => k_is); (case k14 => k_is); (case a15 => k_is); (case l15 => k_is); (case c15 => k_is); (case k15 => k_is); (case a16 => k_is); (case l16 => k_is); (case c16 => k_is); (case k16 => k_is); (case z1 => k_is); (case z2 => k_is); (case z3 => k_is); (case z4 => k_is); (case z5 => k_is); (case z6 => k_is); (case z7 => k_is); (case z8 => k_is); (case z9 => k_is); (case z10 => k_is); (case zg => k_is)


